import PyProof.Rows.All
import Wide.All
import OpenK.AllK
import Wide.FinOn
import HandS.ForMost
import HandS.Exc
import HandS.ExcOwn
import HandS.CallSlots
import HandS.Wide
import HandS.ExcInit
import HandS.Lambda
import HandS.TupMul
import HandS.TupAny
import HandS.Deep
import HandS.Conv
import HandS.Strs
import HandS.SetBool
import HandS.TupSets
import HandS.SortInts
import HandS.IsInst
import HandS.Star
import HandS.WordsExc
import HandS.Zip
import HandS.TryOnly
import HandS.Style
import HandS.Property
import HandS.More
import HandS.DictComp
import PyProof.Draws
import PyProof.EnumMake
import HandS.ClsMeth
import PyProof.ListStr
import PyProof.Rows.StrRev
import KE.GoesZip
import KE.SortData
import KE.DataMinMax
import PyProof.StrOps2
import HandS.SetFor
import HandS.Defaults
import HandS.Iter
import KE.KDictCopyH
import KE.KExcSuper
import HandS.ExcSuper
import HandS.SlotsOwn
import HandS.ExcField
import KE.KTryMore
import HandS.HotCalls
import HandS.EndOwn
import HandS.ExcIs
import HandS.ExcValue
import KE.KExcInit
import KE.KExcLine
import HandS.GenList
import PyProof.ToksMono
import HandS.GenCall
import PyProof.InstEq
import HandS.DictEq
import HandS.WideBits
import Wide.Once
import HandS.Head2
import HandS.HeadHook4
import HandS.HeadWalk
import HandS.HeadNt
import KE.KDflt
import HandS.Codes
import PySem.Challenge.RW_nearclerk_k07_relations_of_texts
set_option Elab.async false
set_option linter.all false
set_option maxRecDepth 100000
set_option maxHeartbeats 4000000
namespace Nc
open PySem PySem.Spec PyProof.Rows L2
inductive D where
  | non | bl (b : Bool) | int (i : Int) | str (z : Str)
  | tup (ds : List D) | lst (ds : List D)
  | dk (ks : List Key) (ds : List D)
  | dt (ks : List (List Key)) (ds : List D)
  /-- the same, locked: it does not change any more -/
  | dl (ks : List (List Key)) (ds : List D)
  | ob (C : Addr) (fs : List Str) (ds : List D)
  | xn (C : Addr) (n : Nat) (fs : List Str) (ds : List D)
  /-- the error at a that is handled, its dict at dx -/
  | xp (a dx : Addr) (fs : List Str) (ds : List D)
  | adr (a : Addr) | ty (n : String)
  /-- an object that may change: a cell of the virtual heap -/
  | ptr (n : Nat)
  /-- some object, told of nowhere; the cell it stood in -/
  | any (n : Nat)
/-- at a: an exception of the class at C, its dict at dx -/
def Exv (o : HO) (a C dx : Addr) : Prop := ∃ φ : Heap → Prop, o = .ext φ ∧ ∀ h, φ h → ∃ (oe : Obj) (vs : Array Value), h.get? a = some oe ∧ Zc (.ref C) (some dx) oe ∧ oe.data = .fields vs
def XdIn (H : Hp) (dx : Addr) (l : List (Str × V)) : Prop := H dx = some (exd dx l) ∨ H dx = some (.xd l)
theorem XdIn.mono {H H' : Hp} {dx : Addr} {l : List (Str × V)} (h : XdIn H dx l) (e : Same H H') : XdIn H' dx l := h.imp (e _ _) (e _ _)
/-- what is frozen, and where the cells stand -/
structure Fz where
  h : Hp
  π : Nat → Option Addr
instance : CoeFun Fz fun _ => Addr → Option HO := ⟨Fz.h⟩
def Fz.upd (B : Fz) (p : Addr) (o : HO) : Fz := ⟨L2.upd B.h p o, B.π⟩
def Fz.add (B : Fz) (n : Nat) (p : Addr) : Fz := ⟨B.h, fun m => if m = n then some p else B.π m⟩
structure FSame (B B' : Fz) : Prop where
  h : Same B.h B'.h
  π : ∀ n a, B.π n = some a → B'.π n = some a
theorem FSame.refl (B : Fz) : FSame B B := ⟨Same.refl _, fun _ _ h => h⟩
theorem FSame.trans {A B C : Fz} (a : FSame A B) (b : FSame B C) : FSame A C := ⟨Same.trans a.h b.h, fun n p h => b.π n p (a.π n p h)⟩
theorem Fz.upd_same {B : Fz} {p : Addr} {o : HO} : (Fz.upd B p o) p = some o := L2.upd_same
theorem Fz.upd_ne {B : Fz} {p q : Addr} {o : HO} (h : q ≠ p) : (Fz.upd B p o) q = B q := L2.upd_ne h
mutual
/-- the value v stands for the tree, read in the frozen part B -/
def Rep (K : PySem.W.Frag) (B : Fz) : D → V → Prop
  | .non, v => v = .non
  | .bl b, v => v = .bl b
  | .int i, v => v = .int i
  | .str z, v => v = .str z
  | .tup ds, v => ∃ a xs, v = .ref a ∧ B a = some (.tup xs) ∧ Reps K B ds xs
  | .lst ds, v => ∃ a xs, v = .ref a ∧ B a = some (.lst xs) ∧ Reps K B ds xs
  | .dk ks ds, v => ∃ a xs, v = .ref a ∧ B a = some (.dK (ks.zip xs)) ∧ ks.length = xs.length ∧ Reps K B ds xs
  | .dt ks ds, v => ∃ a xs, v = .ref a ∧ B a = some (.dT (ks.zip xs)) ∧ ks.length = xs.length ∧ Reps K B ds xs
  | .dl ks ds, v => ∃ a o xs, v = .ref a ∧ B a = some (.frz o (.dT (ks.zip xs))) ∧ ks.length = xs.length ∧ Reps K B ds xs
  | .ob C fs ds, v => ∃ a dx xs, v = .ref a ∧ B a = some (.ins C dx (fs.zip xs)) ∧ fs.length = xs.length ∧ Reps K B ds xs
  | .xn C n fs ds, v => ∃ a dx o xs, v = .ref a ∧ B a = some o ∧ Exv o a C dx ∧ XdIn B.h dx (fs.zip xs) ∧ fs.length = xs.length ∧ Reps K B ds xs
  | .xp a dx fs ds, v => v = .ref a ∧ ∃ xs, XdIn B.h dx (fs.zip xs) ∧ fs.length = xs.length ∧ Reps K B ds xs
  | .adr a, v => v = .ref a
  | .ty n, v => v = .ty n
  | .ptr n, v => ∃ a, v = .ref a ∧ B.π n = some a
  | .any n, v => ∃ a P, v = .ref a ∧ B.π n = some P
def Reps (K : PySem.W.Frag) (B : Fz) : List D → List V → Prop
  | [], vs => vs = []
  | d :: ds, vs => ∃ x xs, vs = x :: xs ∧ Rep K B d x ∧ Reps K B ds xs
end
theorem Same.sqt {K : PySem.W.Frag} {H H' : Hp} {a : Addr} {xs : List V} (e : Same H H') (h : H a = some (.tup xs)) : SqT K H' a xs := .inl (.inl (e _ _ h))
section
variable {K : PySem.W.Frag} {B B' : Fz} {H : Hp}
mutual
theorem Rep.mono (e : FSame B B') : ∀ {d : D} {v : V}, Rep K B d v → Rep K B' d v
  | .non, _, h => h
  | .bl _, _, h => h
  | .int _, _, h => h
  | .str _, _, h => h
  | .tup ds, v, h => by
    simp only [Rep] at h ⊢
    obtain ⟨a, xs, h1, h2, h3⟩ := h
    exact ⟨a, xs, h1, e.h _ _ h2, Reps.mono e h3⟩
  | .lst ds, v, h => by
    simp only [Rep] at h ⊢
    obtain ⟨a, xs, h1, h2, h3⟩ := h
    exact ⟨a, xs, h1, e.h _ _ h2, Reps.mono e h3⟩
  | .dk ks ds, v, h => by
    simp only [Rep] at h ⊢
    obtain ⟨a, xs, h1, h2, h3, h4⟩ := h
    exact ⟨a, xs, h1, e.h _ _ h2, h3, Reps.mono e h4⟩
  | .dt ks ds, v, h => by
    simp only [Rep] at h ⊢
    obtain ⟨a, xs, h1, h2, h3, h4⟩ := h
    exact ⟨a, xs, h1, e.h _ _ h2, h3, Reps.mono e h4⟩
  | .dl ks ds, v, h => by
    simp only [Rep] at h ⊢
    obtain ⟨a, o, xs, h1, h2, h3, h4⟩ := h
    exact ⟨a, o, xs, h1, e.h _ _ h2, h3, Reps.mono e h4⟩
  | .ob C fs ds, v, h => by
    simp only [Rep] at h ⊢
    obtain ⟨a, dx, xs, h1, h2, h3, h4⟩ := h
    exact ⟨a, dx, xs, h1, e.h _ _ h2, h3, Reps.mono e h4⟩
  | .xn C n fs ds, v, h => by
    simp only [Rep] at h ⊢
    obtain ⟨a, dx, o, xs, h1, h2, h6, h5, h3, h4⟩ := h
    exact ⟨a, dx, o, xs, h1, e.h _ _ h2, h6, h5.mono e.h, h3, Reps.mono e h4⟩
  | .xp a dx fs ds, v, h => by
    simp only [Rep] at h ⊢
    obtain ⟨h1, xs, h5, h3, h4⟩ := h
    exact ⟨h1, xs, h5.mono e.h, h3, Reps.mono e h4⟩
  | .adr _, _, h => h
  | .ty _, _, h => h
  | .ptr n, v, h => by
    simp only [Rep] at h ⊢
    obtain ⟨a, h1, h2⟩ := h
    exact ⟨a, h1, e.π _ _ h2⟩
  | .any n, v, h => by
    simp only [Rep] at h ⊢
    obtain ⟨a, P, h1, h2⟩ := h
    exact ⟨a, P, h1, e.π _ _ h2⟩
theorem Reps.mono (e : FSame B B') : ∀ {ds : List D} {vs : List V}, Reps K B ds vs → Reps K B' ds vs
  | [], _, h => h
  | d :: ds, vs, h => by
    simp only [Reps] at h ⊢
    obtain ⟨x, xs, h1, h2, h3⟩ := h
    exact ⟨x, xs, h1, Rep.mono e h2, Reps.mono e h3⟩
end
theorem Reps.nil : Reps K B [] [] := by simp only [Reps]
theorem Reps.cons {d : D} {v : V} {ds : List D} {vs : List V} (h : Rep K B d v) (t : Reps K B ds vs) : Reps K B (d :: ds) (v :: vs) := by
  simp only [Reps]
  exact ⟨v, vs, rfl, h, t⟩
theorem Reps.length : ∀ {ds : List D} {vs : List V}, Reps K B ds vs → ds.length = vs.length
  | [], _, h => by
    simp only [Reps] at h
    subst h
    rfl
  | d :: ds, vs, h => by
    simp only [Reps] at h
    obtain ⟨x, xs, rfl, _, h3⟩ := h
    rw [List.length_cons, List.length_cons, Reps.length h3]
theorem Reps.get : ∀ {ds : List D} {vs : List V} {i : Nat} {d : D}, Reps K B ds vs → ds[i]? = some d → ∃ v, vs[i]? = some v ∧ Rep K B d v
  | [], _, _, _, _, e => by simp at e
  | d :: ds, vs, 0, d', h, e => by
    simp only [Reps] at h
    obtain ⟨x, xs, rfl, h2, _⟩ := h
    simp at e
    subst e
    exact ⟨x, rfl, h2⟩
  | d :: ds, vs, i + 1, d', h, e => by
    simp only [Reps] at h
    obtain ⟨x, xs, rfl, _, h3⟩ := h
    obtain ⟨v, e1, r⟩ := Reps.get (i := i) h3 (by simpa using e)
    exact ⟨v, by simpa using e1, r⟩
theorem Reps.append : ∀ {ds es : List D} {vs us : List V}, Reps K B ds vs → Reps K B es us → Reps K B (ds ++ es) (vs ++ us)
  | [], es, vs, us, h, t => by
    simp only [Reps] at h
    subst h
    exact t
  | d :: ds, es, vs, us, h, t => by
    simp only [Reps] at h
    obtain ⟨x, xs, rfl, h2, h3⟩ := h
    exact Reps.cons h2 (Reps.append h3 t)
theorem Reps.drop : ∀ (n : Nat) {ds : List D} {vs : List V}, Reps K B ds vs → Reps K B (ds.drop n) (vs.drop n)
  | 0, _, _, h => h
  | n + 1, [], vs, h => by
    simp only [Reps] at h
    subst h
    exact Reps.nil
  | n + 1, d :: ds, vs, h => by
    simp only [Reps] at h
    obtain ⟨x, xs, rfl, _, h3⟩ := h
    exact Reps.drop n h3
theorem Reps.take : ∀ (n : Nat) {ds : List D} {vs : List V}, Reps K B ds vs → Reps K B (ds.take n) (vs.take n)
  | 0, _, _, h => Reps.nil
  | n + 1, [], vs, h => by
    simp only [Reps] at h
    subst h
    exact Reps.nil
  | n + 1, d :: ds, vs, h => by
    simp only [Reps] at h
    obtain ⟨x, xs, rfl, h2, h3⟩ := h
    exact Reps.cons h2 (Reps.take n h3)
theorem Reps.set : ∀ (i : Nat) {d : D} {v : V} {ds : List D} {vs : List V}, Rep K B d v → Reps K B ds vs → Reps K B (ds.set i d) (vs.set i v)
  | i, d, v, [], vs, r, h => by
    simp only [Reps] at h
    subst h
    cases i <;> exact Reps.nil
  | 0, d, v, c :: ds, vs, r, h => by
    simp only [Reps] at h
    obtain ⟨x, xs, rfl, h2, h3⟩ := h
    exact Reps.cons r h3
  | i + 1, d, v, c :: ds, vs, r, h => by
    simp only [Reps] at h
    obtain ⟨x, xs, rfl, h2, h3⟩ := h
    exact Reps.cons h2 (Reps.set i r h3)
theorem Reps.erase : ∀ (i : Nat) {ds : List D} {vs : List V}, Reps K B ds vs → Reps K B (ds.eraseIdx i) (vs.eraseIdx i)
  | i, [], vs, h => by
    simp only [Reps] at h
    subst h
    exact Reps.nil
  | 0, c :: ds, vs, h => by
    simp only [Reps] at h
    obtain ⟨x, xs, rfl, h2, h3⟩ := h
    exact h3
  | i + 1, c :: ds, vs, h => by
    simp only [Reps] at h
    obtain ⟨x, xs, rfl, h2, h3⟩ := h
    exact Reps.cons h2 (Reps.erase i h3)
theorem Reps.ints : ∀ {ns : List Int} {vs : List V}, Reps K B (ns.map D.int) vs → vs = ns.map V.int
  | [], vs, h => by
    simp only [List.map, Reps] at h
    exact h
  | n :: ns, vs, h => by
    simp only [List.map, Reps, Rep] at h
    obtain ⟨x, xs, rfl, rfl, h3⟩ := h
    rw [Reps.ints h3]
    rfl
theorem Reps.of_ints : ∀ (ns : List Int), Reps K B (ns.map D.int) (ns.map V.int)
  | [] => Reps.nil
  | n :: ns => Reps.cons (by simp only [Rep]) (Reps.of_ints ns)
end
/-- an object that a def's own local name or a cell holds -/
inductive O where
  | lst (ds : List D) | dk (ks : List Key) (ds : List D) | dt (ks : List (List Key)) (ds : List D) | ob (C : Addr) (fs : List Str) (ds : List D)
  /-- the table at P of code objects of the name q, the cell n -/
  | tbl (n : Nat) (P : Addr) (q : Str)
inductive Slot where
  | val (d : D)
  | own (o : O)
abbrev Cells := List O
/-- a def's names and the cells -/
structure Rho where
  l : List (Option Slot)
  g : Cells
instance : GetElem? Rho Nat (Option Slot) (fun ρ i => i < ρ.l.length) where
  getElem ρ i h := ρ.l[i]
  getElem? ρ i := ρ.l[i]?
def Rho.set (ρ : Rho) (i : Nat) (s : Option Slot) : Rho := ⟨ρ.l.set i s, ρ.g⟩
def Rho.length (ρ : Rho) : Nat := ρ.l.length
theorem Rho.get_l {ρ : Rho} {i : Nat} : ρ[i]? = ρ.l[i]? := rfl
theorem Rho.length_set {ρ : Rho} {i : Nat} {s : Option Slot} : (ρ.set i s).length = ρ.length := List.length_set
theorem Rho.get_set_self {ρ : Rho} {i : Nat} {s : Option Slot} (h : i < ρ.length) : (ρ.set i s)[i]? = some s := List.getElem?_set_self h
theorem Rho.get_set_ne {ρ : Rho} {i j : Nat} {s : Option Slot} (h : i ≠ j) : (ρ.set i s)[j]? = ρ[j]? := List.getElem?_set_ne h
/-- a table of code objects of the name q -/
def TblOk (B : Fz) (h : HO) (q : Str) : Prop := ∃ ps : Array Value, h = .tbl ps ∧ TriplesOk ps.toList ∧ ∀ (pos : Pos) (cv : Value), codeAmong pos ps.toList = some cv → ∃ c, cv = .ref c ∧ B c = some (LamX.CodeO c q)
theorem TblOk.mono {B B' : Fz} {h : HO} {q : Str} (t : TblOk B h q) (e : Same B.h B'.h) : TblOk B' h q := by
  obtain ⟨ps, h1, h2, h3⟩ := t
  refine ⟨ps, h1, h2, fun pos cv hc => ?_⟩
  obtain ⟨c, h4, h5⟩ := h3 pos cv hc
  exact ⟨c, h4, e _ _ h5⟩
def RepO (K : PySem.W.Frag) (B : Fz) : O → HO → Prop
  | .lst ds, h => ∃ xs, h = .lst xs ∧ Reps K B ds xs
  | .dk ks ds, h => ∃ xs, h = .dK (ks.zip xs) ∧ ks.length = xs.length ∧ Reps K B ds xs
  | .dt ks ds, h => ∃ xs, h = .dT (ks.zip xs) ∧ ks.length = xs.length ∧ Reps K B ds xs
  | .ob C fs ds, h => ∃ dx xs, h = .ins C dx (fs.zip xs) ∧ fs.length = xs.length ∧ Reps K B ds xs
  | .tbl n P q, h => B.π n = some P ∧ TblOk B h q
def O.frozen : O → D
  | .lst ds => .lst ds
  | .dk ks ds => .dk ks ds
  | .dt ks ds => .dt ks ds
  | .ob C fs ds => .ob C fs ds
  | .tbl n _ _ => .any n
theorem RepO.mono {K : PySem.W.Frag} {B B' : Fz} (e : FSame B B') : ∀ {o : O} {h : HO}, RepO K B o h → RepO K B' o h
  | .lst _, _, ⟨xs, h1, h2⟩ => ⟨xs, h1, h2.mono e⟩
  | .dk _ _, _, ⟨xs, h1, h3, h2⟩ => ⟨xs, h1, h3, h2.mono e⟩
  | .dt _ _, _, ⟨xs, h1, h3, h2⟩ => ⟨xs, h1, h3, h2.mono e⟩
  | .ob _ _ _, _, ⟨dx, xs, h1, h3, h2⟩ => ⟨dx, xs, h1, h3, h2.mono e⟩
  | .tbl _ _ _, _, ⟨h1, h2⟩ => ⟨e.π _ _ h1, h2.mono e.h⟩
theorem RepO.freeze {K : PySem.W.Frag} {B : Fz} {a : Addr} {h : HO} : ∀ {o : O}, RepO K B o h → B a = some h → Rep K B o.frozen (.ref a)
  | .lst _, ⟨xs, h1, h2⟩, e => by
    subst h1
    simp only [O.frozen, Rep]
    exact ⟨a, xs, rfl, e, h2⟩
  | .dk _ _, ⟨xs, h1, h3, h2⟩, e => by
    subst h1
    simp only [O.frozen, Rep]
    exact ⟨a, xs, rfl, e, h3, h2⟩
  | .dt _ _, ⟨xs, h1, h3, h2⟩, e => by
    subst h1
    simp only [O.frozen, Rep]
    exact ⟨a, xs, rfl, e, h3, h2⟩
  | .ob _ _ _, ⟨dx, xs, h1, h3, h2⟩, e => by
    subst h1
    simp only [O.frozen, Rep]
    exact ⟨a, dx, xs, rfl, e, h3, h2⟩
  | .tbl _ P _, ⟨h1, _⟩, _ => by
    simp only [O.frozen, Rep]
    exact ⟨a, P, rfl, h1⟩
def SlotOk (K : PySem.W.Frag) (B : Fz) (H : Hp) (v : Option V) : Option Slot → Prop
  | none => True
  | some (.val d) => ∃ x, v = some x ∧ Rep K B d x
  | some (.own o) => ∃ p h, v = some (.ref p) ∧ B p = none ∧ H p = some h ∧ RepO K B o h
def CellOk (K : PySem.W.Frag) (B : Fz) (H : Hp) (n : Nat) (o : O) : Prop := ∃ a h, B.π n = some a ∧ B a = none ∧ H a = some h ∧ RepO K B o h
/-- the cells stand -/
structure Cl (K : PySem.W.Frag) (B : Fz) (H : Hp) (g : Cells) : Prop where
  at_ : ∀ n o, g[n]? = some o → CellOk K B H n o
  dom : ∀ n, g.length ≤ n → B.π n = none
  pin : ∀ n a, B.π n = some a → H a ≠ none
/-- where an own object is held -/
inductive Ix where
  | s (i : Nat) | c (n : Nat)
/-- the place i holds an object of its own at p -/
def OwnAt (σ : L2.St) (B : Fz) (ρ : Rho) : Ix → Addr → Prop
  | .s i, p => (∃ o, ρ[i]? = some (some (.own o))) ∧ σ[i]? = some (some (.ref p))
  | .c n, p => (∃ o, ρ.g[n]? = some o) ∧ B.π n = some p
def OwnA (σ : L2.St) (B : Fz) (ρ : Rho) (p : Addr) : Prop := ∃ i, OwnAt σ B ρ i p
structure Cf (K : PySem.W.Frag) (B : Fz) (H : Hp) (σ : L2.St) (ρ : Rho) : Prop where
  bh : Same B.h H
  len : σ.length = ρ.length
  at_ : ∀ (i : Nat) (s : Option Slot), ρ[i]? = some s → SlotOk K B H ((σ[i]?).getD none) s
  sep : ∀ i j p, OwnAt σ B ρ i p → OwnAt σ B ρ j p → i = j
  cl : Cl K B H ρ.g
/-- a tuple stands at b -/
def IsTp (H : Hp) (b : Addr) : Prop := ∃ xs, H b = some (.tup xs)
theorem RepO.notTp {K : PySem.W.Frag} {B : Fz} {u : HO} {xs : List V} : ∀ {o : O}, RepO K B o u → u ≠ .tup xs
  | .lst _, ⟨_, h, _⟩ => by rw [h]; exact fun z => by cases z
  | .dk _ _, ⟨_, h, _⟩ => by rw [h]; exact fun z => by cases z
  | .dt _ _, ⟨_, h, _⟩ => by rw [h]; exact fun z => by cases z
  | .ob _ _ _, ⟨_, _, h, _⟩ => by rw [h]; exact fun z => by cases z
  | .tbl _ _ _, ⟨_, ps, h, _⟩ => by rw [h]; exact fun z => by cases z
theorem RepO.noTp {K : PySem.W.Frag} {B : Fz} {H : Hp} {u : HO} {p : Addr} {o : O} (r : RepO K B o u) (e : H p = some u) : ¬ IsTp H p := fun ⟨xs, h⟩ => r.notTp (xs := xs) (Option.some.inj (e.symm.trans h))
structure Step (K : PySem.W.Frag) (σ : L2.St) (B : Fz) (H : Hp) (ρ : Rho) (σ' : L2.St) (B' : Fz) (H' : Hp) (ρ' : Rho) : Prop where
  cf : Cf K B' H' σ' ρ'
  bb : FSame B B'
  keep : ∀ b o, H b = some o → ¬ OwnA σ B ρ b → H' b = some o
  there : ∀ b, H b ≠ none → H' b ≠ none
  new : ∀ b, B' b ≠ none → B b = none → H b = none ∨ OwnA σ B ρ b ∨ IsTp H b
  own : ∀ b, OwnA σ' B' ρ' b → OwnA σ B ρ b ∨ H b = none
section
variable {K : PySem.W.Frag} {σ σ1 σ2 : L2.St} {B B1 B2 : Fz} {H H1 H2 : Hp} {ρ ρ1 ρ2 : Rho}
theorem Step.refl (c : Cf K B H σ ρ) : Step K σ B H ρ σ B H ρ :=
  ⟨c, FSame.refl B, fun _ _ h _ => h, fun _ h => h, fun _ h e => absurd e h, fun _ h => .inl h⟩
theorem Step.trans (a : Step K σ B H ρ σ1 B1 H1 ρ1) (b : Step K σ1 B1 H1 ρ1 σ2 B2 H2 ρ2) : Step K σ B H ρ σ2 B2 H2 ρ2 where
  cf := b.cf
  bb := a.bb.trans b.bb
  keep := fun c o e n => b.keep c o (a.keep c o e n) fun z => (a.own c z).elim n fun z => by
    rw [z] at e
    cases e
  there := fun c e => b.there c (a.there c e)
  new := fun c e n => by
    by_cases z : B1 c = none
    · rcases b.new c e z with q | q | ⟨xs, q⟩
      · left
        exact Classical.byContradiction fun y => a.there c y q
      · exact (a.own c q).symm.imp_right .inl
      · refine Classical.byContradiction fun y => ?_
        have y1 : H c ≠ none := fun z => y (.inl z)
        have y2 : ¬ OwnA σ B ρ c := fun z => y (.inr (.inl z))
        obtain ⟨o, ho⟩ := Option.ne_none_iff_exists'.mp y1
        have h1 := a.keep c o ho y2
        rw [q] at h1
        cases h1
        exact y (.inr (.inr ⟨xs, ho⟩))
    · exact a.new c z n
  own := fun c z => by
    rcases b.own c z with q | q
    · exact a.own c q
    · right
      exact Classical.byContradiction fun y => a.there c y q
theorem OwnAt.not_frozen (c : Cf K B H σ ρ) {i : Ix} {p : Addr} (o : OwnAt σ B ρ i p) : B p = none ∧ H p ≠ none := by
  cases i with
  | s i =>
    obtain ⟨⟨u, e⟩, f⟩ := o
    obtain ⟨q, h, h1, h2, h3, _⟩ := c.at_ i _ e
    rw [f] at h1
    cases h1
    exact ⟨h2, by rw [h3]; exact fun z => by cases z⟩
  | c n =>
    obtain ⟨⟨u, e⟩, f⟩ := o
    obtain ⟨q, h, h1, h2, h3, _⟩ := c.cl.at_ n _ e
    rw [f] at h1
    cases h1
    exact ⟨h2, by rw [h3]; exact fun z => by cases z⟩
theorem OwnA.not_frozen (c : Cf K B H σ ρ) {p : Addr} (o : OwnA σ B ρ p) : B p = none ∧ H p ≠ none := by
  obtain ⟨i, o⟩ := o
  exact o.not_frozen c
theorem FSame.upd {p : Addr} {o : HO} (hB : B p = none) : FSame B (Fz.upd B p o) := ⟨fun b u e => by
    show (L2.upd B.h p o) b = some u
    rw [L2.upd_ne (ne_of_none e hB)]
    exact e, fun _ _ h => h⟩
/-- cells at another heap -/
theorem Cl.to {g : Cells} (c : Cl K B H g) (e : FSame B B1) (hp : ∀ n, g.length ≤ n → B1.π n = none) (hf : ∀ n o a, g[n]? = some o → B.π n = some a → H1 a = H a ∧ B1 a = none) (hn : ∀ n a, B1.π n = some a → H1 a ≠ none) : Cl K B1 H1 g :=
  ⟨fun n o h => by
    obtain ⟨a, u, h1, h2, h3, h4⟩ := c.at_ n o h
    obtain ⟨q1, q2⟩ := hf n o a h h1
    exact ⟨a, u, e.π _ _ h1, q2, by rw [q1]; exact h3, h4.mono e⟩, hp, hn⟩
theorem OwnAt.up {i : Ix} {p : Addr} {o : HO} : OwnAt σ (Fz.upd B p o) ρ i = OwnAt σ B ρ i := by cases i <;> rfl
theorem OwnA.up {p b : Addr} {o : HO} : OwnA σ (Fz.upd B p o) ρ b ↔ OwnA σ B ρ b := by
  unfold OwnA
  simp only [OwnAt.up]
/-- a new frozen object -/
theorem Cf.laid (c : Cf K B H σ ρ) {p : Addr} (hp : H p = none) (o : HO) : Step K σ B H ρ σ (Fz.upd B p o) (upd H p o) ρ := by
  have hB : B p = none := Classical.byContradiction fun y => by
    cases e : B p with
    | none => exact y e
    | some u =>
      rw [c.bh p u e] at hp
      cases hp
  have sB : FSame B (Fz.upd B p o) := FSame.upd hB
  refine ⟨⟨fun b u e => ?_, c.len, fun i s e => ?_, fun i j q => by rw [OwnAt.up, OwnAt.up]; exact c.sep i j q, c.cl.to sB c.cl.dom (fun n o' a h1 h2 => ?_) fun n a h => ?_⟩, sB, fun b u e _ => ?_, fun b e => ?_, fun b e n => ?_, fun b z => .inl (OwnA.up.mp z)⟩
  · by_cases hb : b = p
    · subst hb
      have e : (Fz.upd B b o) b = some u := e
      rw [Fz.upd_same] at e
      rw [upd_same]
      exact e
    · have e : (Fz.upd B p o) b = some u := e
      rw [Fz.upd_ne hb] at e
      rw [upd_ne hb]
      exact c.bh b u e
  · have q := c.at_ i s e
    cases s with
    | none => trivial
    | some s =>
      cases s with
      | val d =>
        obtain ⟨x, h1, h2⟩ := q
        exact ⟨x, h1, h2.mono sB⟩
      | own u =>
        obtain ⟨r, h, h1, h2, h3, h4⟩ := q
        have hr : r ≠ p := ne_of_none h3 hp
        exact ⟨r, h, h1, by rw [Fz.upd_ne hr]; exact h2, by rw [upd_ne hr]; exact h3, h4.mono sB⟩
  · obtain ⟨a', u, g1, g2, g3, g4⟩ := c.cl.at_ n o' h1
    rw [h2] at g1
    cases g1
    have hr : a ≠ p := ne_of_none g3 hp
    exact ⟨by rw [upd_ne hr], by rw [Fz.upd_ne hr]; exact g2⟩
  · by_cases hb : a = p
    · subst hb
      rw [upd_same]
      exact fun z => by cases z
    · rw [upd_ne hb]
      exact c.cl.pin n a h
  · rw [upd_ne (ne_of_none e hp)]
    exact e
  · by_cases hb : b = p
    · subst hb
      rw [upd_same]
      exact fun z => by cases z
    · rw [upd_ne hb]
      exact e
  · by_cases hb : b = p
    · subst hb
      exact .inl hp
    · rw [Fz.upd_ne hb] at e
      exact absurd n e
/-- a new object that is tracked and not frozen -/
theorem Cf.free (c : Cf K B H σ ρ) {p : Addr} (hp : H p = none) (o : HO) : Step K σ B H ρ σ B (upd H p o) ρ := by
  refine ⟨⟨fun b u e => ?_, c.len, fun i s e => ?_, c.sep, c.cl.to (FSame.refl B) c.cl.dom (fun n o' a h1 h2 => ?_) fun n a h => ?_⟩, FSame.refl B, fun b u e _ => ?_, fun b e => ?_, fun b e n => absurd n e, fun b z => .inl z⟩
  · have q := c.bh b u e
    rw [upd_ne (ne_of_none q hp)]
    exact q
  · have q := c.at_ i s e
    cases s with
    | none => trivial
    | some s =>
      cases s with
      | val d => exact q
      | own u =>
        obtain ⟨r, h, h1, h2, h3, h4⟩ := q
        exact ⟨r, h, h1, h2, by rw [upd_ne (ne_of_none h3 hp)]; exact h3, h4⟩
  · obtain ⟨a', u, g1, g2, g3, g4⟩ := c.cl.at_ n o' h1
    rw [h2] at g1
    cases g1
    exact ⟨by rw [upd_ne (ne_of_none g3 hp)], g2⟩
  · by_cases hb : a = p
    · subst hb
      rw [upd_same]
      exact fun z => by cases z
    · rw [upd_ne hb]
      exact c.cl.pin n a h
  · rw [upd_ne (ne_of_none e hp)]
    exact e
  · by_cases hb : b = p
    · subst hb
      rw [upd_same]
      exact fun z => by cases z
    · rw [upd_ne hb]
      exact e
end
end Nc
namespace Nc
open PySem PySem.Spec PyProof.Rows L2
/-- an exception of an own class, with its fields -/
structure Xn where
  C : Addr
  /-- its number in the table of classes -/
  n : Nat
  fs : List Str
  ds : List D
inductive Rs (α : Type) where
  | no | ok (a : α) (ρ : Rho) | ex (e : Xn) (ρ : Rho)
def M (α : Type) := Rho → Rs α
def M.ret {α : Type} (a : α) : M α := fun ρ => .ok a ρ
def M.bnd {α β : Type} (f : M α) (g : α → M β) : M β := fun ρ => match f ρ with
  | .no => .no
  | .ok a ρ' => g a ρ'
  | .ex e ρ' => .ex e ρ'
def M.opt {α : Type} : Option α → M α
  | none => fun _ => .no
  | some a => fun ρ => .ok a ρ
instance : Monad M where
  pure := M.ret
  bind := M.bnd
theorem bnd_ok {α β : Type} {f : M α} {g : α → M β} {ρ ρ' : Rho} {a : α} (h : f ρ = .ok a ρ') : (f >>= g) ρ = g a ρ' := by
  show M.bnd f g ρ = _
  unfold M.bnd
  rw [h]
theorem bnd_ex {α β : Type} {f : M α} {g : α → M β} {ρ ρ' : Rho} {e : Xn} (h : f ρ = .ex e ρ') : (f >>= g) ρ = .ex e ρ' := by
  show M.bnd f g ρ = _
  unfold M.bnd
  rw [h]
theorem bnd_no {α β : Type} {f : M α} {g : α → M β} {ρ : Rho} (h : f ρ = .no) : (f >>= g) ρ = .no := by
  show M.bnd f g ρ = _
  unfold M.bnd
  rw [h]
def RepX (K : PySem.W.Frag) (B : Fz) (H : Hp) (e : Xn) (oc : Option Addr) : Prop := e.fs = [] ∨ ∃ d xs, oc = some d ∧ B d = some (.xd (e.fs.zip xs)) ∧ e.fs.length = xs.length ∧ Reps K B e.ds xs
/-- how a value of the logic (β) stands for one of the monad (α); the first heap is the one at the start -/
abbrev Rl (α β : Type) := Hp → L2.St → Fz → Hp → Rho → α → β → Prop
class RlM {α β : Type} (R : Rl α β) : Prop where
  back : ∀ {H H1 : Hp} {σ : L2.St} {B' : Fz} {H' : Hp} {ρ' : Rho} {a : α} {b : β}, (∀ p, H p ≠ none → H1 p ≠ none) → R H1 σ B' H' ρ' a b → R H σ B' H' ρ' a b
def RD (K : PySem.W.Frag) : Rl D V := fun _ _ B _ _ d v => Rep K B d v
def RE (α : Type) : Rl α α := fun _ _ _ _ _ a b => a = b
abbrev RB : Rl Bool Bool := RE Bool
def RL (K : PySem.W.Frag) : Rl (List D) (List V) := fun _ _ B _ _ ds vs => Reps K B ds vs
instance (K : PySem.W.Frag) : RlM (RD K) := ⟨fun _ h => h⟩
instance (α : Type) : RlM (RE α) := ⟨fun _ h => h⟩
instance (K : PySem.W.Frag) : RlM (RL K) := ⟨fun _ h => h⟩
section
variable {α β γ δ : Type}
def At (K : PySem.W.Frag) (E : WX) (R : Rl α β) (σ : L2.St) (B : Fz) (H : Hp) (ρ : Rho) (Q : β → Hp → Prop) : Rs α → Prop
  | .no => False
  | .ok a ρ' => ∀ x B' H', Step K σ B H ρ σ B' H' ρ' → R H σ B' H' ρ' a x → Q x H'
  | .ex e ρ' => ∀ oc σ' B' H', Step K σ B H ρ σ' B' H' ρ' → RepX K B' H' e oc → E (.ref e.C) oc σ' H'
def tR (K : PySem.W.Frag) (E : WX) (R : Rl α β) (f : M α) : L2.St → Hp → (β → Hp → Prop) → Prop := fun σ H Q => ∃ B ρ, Cf K B H σ ρ ∧ At K E R σ B H ρ Q (f ρ)
abbrev tD (K : PySem.W.Frag) (E : WX) (f : M D) : TE := tR K E (RD K) f
abbrev tT (K : PySem.W.Frag) (E : WX) (f : M Bool) : TT := tR K E RB f
abbrev tL (K : PySem.W.Frag) (E : WX) (f : M (List D)) : TA := tR K E (RL K) f
variable {K : PySem.W.Frag} {E : WX} {R : Rl α β} {R' : Rl γ δ} {σ : L2.St} {B B1 : Fz} {H H1 : Hp} {ρ ρ1 : Rho} {f : M α} {g : α → M γ} {Q : δ → Hp → Prop}
theorem At.imp {Q Q' : β → Hp → Prop} : ∀ {r : Rs α}, At K E R σ B H ρ Q r → (∀ a ρ' x B' H', r = .ok a ρ' → Step K σ B H ρ σ B' H' ρ' → R H σ B' H' ρ' a x → Q x H' → Q' x H') → At K E R σ B H ρ Q' r
  | .no, h, _ => h
  | .ok a ρ', h, k => fun x B' H' st r => k a ρ' x B' H' rfl st r (h x B' H' st r)
  | .ex e ρ', h, _ => h
/-- from a point further on -/
theorem At.from [RlM R'] (st : Step K σ B H ρ σ B1 H1 ρ1) : ∀ {r : Rs γ}, At K E R' σ B H ρ Q r → At K E R' σ B1 H1 ρ1 Q r
  | .no, h => h
  | .ok a ρ', h => fun x B' H' s2 r => h x B' H' (st.trans s2) (RlM.back st.there r)
  | .ex e ρ', h => fun oc σ' B' H' s2 r => h oc σ' B' H' (st.trans s2) r
/-- THE RULE: a first part, then the rest from where it leaves -/
theorem At.seq [RlM R'] (h : At K E R' σ B H ρ Q ((f >>= g) ρ)) : At K E R σ B H ρ (fun x H1 => ∃ a B1 ρ1, Step K σ B H ρ σ B1 H1 ρ1 ∧ R H σ B1 H1 ρ1 a x ∧ At K E R' σ B1 H1 ρ1 Q (g a ρ1)) (f ρ) := by
  cases e : f ρ with
  | no =>
    rw [bnd_no e] at h
    exact h
  | ex x ρ' =>
    rw [bnd_ex e] at h
    exact h
  | ok a ρ' =>
    rw [bnd_ok e] at h
    exact fun x B1 H1 st r => ⟨a, B1, ρ', st, r, h.from st⟩
theorem At.opt {o : Option γ} (h : At K E R' σ B H ρ Q (M.opt o ρ)) : ∃ a, o = some a ∧ ∀ x B' H', Step K σ B H ρ σ B' H' ρ → R' H σ B' H' ρ a x → Q x H' := by
  cases o with
  | none => exact h.elim
  | some a => exact ⟨a, rfl, h⟩
theorem At.here (c : Cf K B H σ ρ) {a : γ} {x : δ} (h : At K E R' σ B H ρ Q (.ok a ρ)) (r : R' H σ B H ρ a x) : Q x H := h x B H (Step.refl c) r
end
theorem rep_int {K : PySem.W.Frag} {B : Fz} {i : Int} {x : V} (h : Rep K B (.int i) x) : x = .int i := by simpa only [Rep] using h
theorem rep_bl {K : PySem.W.Frag} {B : Fz} {b : Bool} {x : V} (h : Rep K B (.bl b) x) : x = .bl b := by simpa only [Rep] using h
theorem rep_str {K : PySem.W.Frag} {B : Fz} {z : Str} {x : V} (h : Rep K B (.str z) x) : x = .str z := by simpa only [Rep] using h
theorem rep_non {K : PySem.W.Frag} {B : Fz} {x : V} (h : Rep K B .non x) : x = .non := by simpa only [Rep] using h
section
variable {X : Cx}
theorem pe_weak {e : Expr} {t t' : TE} (h : PE X e t) (k : ∀ σ H Q, t' σ H Q → t σ H Q) : PE X e t' := ⟨fun pins s σ H Q I q => h.run pins s σ H Q I (k σ H Q q)⟩
theorem pt_weak {e : Expr} {t t' : TT} (h : PT X e t) (k : ∀ σ H Q, t' σ H Q → t σ H Q) : PT X e t' := ⟨fun pins s σ H Q I q => h.run pins s σ H Q I (k σ H Q q)⟩
theorem pw_weak {e : Expr} {t t' : TT} (h : PW X e t) (k : ∀ σ H Q, t' σ H Q → t σ H Q) : PW X e t' := ⟨fun w pins s σ H Q I q => h.run w pins s σ H Q I (k σ H Q q)⟩
theorem pa_weak {e : List Expr} {t t' : TA} (h : PA X e t) (k : ∀ σ H Q, t' σ H Q → t σ H Q) : PA X e t' := ⟨fun pos pins s σ H Q I q => h.run pos pins s σ H Q I (k σ H Q q)⟩
theorem ps_weak {e : Stmt} {t t' : TS} (h : PS X e t) (k : ∀ D σ H, t' D σ H → t D σ H) : PS X e t' := ⟨fun pins s σ H D I q => h.run pins s σ H D I (k D σ H q)⟩
theorem pss_weak {e : List Stmt} {t t' : TS} (h : PSs X e t) (k : ∀ D σ H, t' D σ H → t D σ H) : PSs X e t' := ⟨fun pins s σ H D I q => h.run pins s σ H D I (k D σ H q)⟩
end
section
variable {X : Cx} {E : WX}
theorem pd_const {e : Expr} {v : V} {d : D} (h : PE X e (tC v)) (r : ∀ B, Rep X.K B d v) : PE X e (tD X.K E (M.ret d)) :=
  pe_weak h fun σ H Q ⟨B, ρ, c, a⟩ => a.here c (r B)
theorem pd_int {i j pos} : PE X (.Constant (.int i) j pos) (tD X.K E (M.ret (.int i))) := pd_const pe_int fun _ => by simp only [Rep]
theorem pd_bl {b j pos} : PE X (.Constant (.bool b) j pos) (tD X.K E (M.ret (.bl b))) := pd_const pe_bl fun _ => by simp only [Rep]
theorem pd_non {j pos} : PE X (.Constant .none j pos) (tD X.K E (M.ret .non)) := pd_const pe_non fun _ => by simp only [Rep]
theorem pd_str {z j pos} : PE X (.Constant (.str z) j pos) (tD X.K E (M.ret (.str z))) := pd_const pe_str fun _ => by simp only [Rep]
/-- the slot's value; an own object becomes frozen -/
def var (i : Nat) : M D := fun ρ => match ρ[i]? with
  | some (some (.val d)) => .ok d ρ
  | some (some (.own o)) => .ok o.frozen (ρ.set i (some (.val o.frozen)))
  | _ => .no
section
variable {K : PySem.W.Frag} {σ : L2.St} {B : Fz} {H : Hp} {ρ : Rho}
theorem getD_eq {α : Type} {l : List (Option α)} {i : Nat} {x : α} (h1 : (l[i]?).getD none = some x) : l[i]? = some (some x) := by
  cases e : l[i]? with
  | none =>
    rw [e] at h1
    cases h1
  | some w =>
    rw [e] at h1
    have : w = some x := h1
    rw [this]
theorem Cf.val (c : Cf K B H σ ρ) {i : Nat} {d : D} (h : ρ[i]? = some (some (.val d))) : ∃ v, σ[i]? = some (some v) ∧ Rep K B d v := by
  obtain ⟨x, h1, h2⟩ := c.at_ i _ h
  exact ⟨x, getD_eq h1, h2⟩
theorem Cf.own (c : Cf K B H σ ρ) {i : Nat} {o : O} (h : ρ[i]? = some (some (.own o))) : ∃ p u, σ[i]? = some (some (.ref p)) ∧ B p = none ∧ H p = some u ∧ RepO K B o u ∧ OwnAt σ B ρ (.s i) p := by
  obtain ⟨p, u, h1, h2, h3, h4⟩ := c.at_ i _ h
  have e := getD_eq h1
  exact ⟨p, u, e, h2, h3, h4, ⟨o, h⟩, e⟩
theorem getD_set {i j : Nat} {ρ : Rho} {s : Option Slot} {u : Option Slot} (h : (ρ.set i s)[j]? = some u) : (j = i ∧ u = s ∧ i < ρ.length) ∨ (j ≠ i ∧ ρ[j]? = some u) := by
  by_cases e : j = i
  · subst e
    by_cases l : j < ρ.length
    · rw [Rho.get_set_self l] at h
      exact .inl ⟨rfl, (Option.some.inj h).symm, l⟩
    · have : (ρ.set j s)[j]? = none := List.getElem?_eq_none (by show (ρ.l.set j s).length ≤ j; rw [List.length_set]; exact Nat.le_of_not_lt l)
      rw [this] at h
      cases h
  · rw [Rho.get_set_ne (Ne.symm e)] at h
    exact .inr ⟨e, h⟩
theorem Cl.upd {g : Cells} (c : Cl K B H g) {p : Addr} {u : HO} (hB : B p = none) (hn : ∀ n o, g[n]? = some o → B.π n ≠ some p) : Cl K (Fz.upd B p u) H g :=
  c.to (FSame.upd hB) c.dom (fun n o a h1 h2 => by
    have hr : a ≠ p := fun z => hn n o h1 (by rw [h2, z])
    obtain ⟨a', u', g1, g2, g3, g4⟩ := c.at_ n o h1
    rw [h2] at g1
    cases g1
    exact ⟨rfl, by rw [Fz.upd_ne hr]; exact g2⟩) c.pin
theorem upd_frozen (bh : Same B.h H) {p : Addr} {u : HO} (hH : H p = some u) : Same (Fz.upd B p u).h H := fun b w q => by
  have q : (Fz.upd B p u) b = some w := q
  by_cases hb : b = p
  · subst hb
    rw [Fz.upd_same] at q
    rw [hH, q]
  · rw [Fz.upd_ne hb] at q
    exact bh b w q
/-- an own object is frozen -/
theorem Cf.freeze (c : Cf K B H σ ρ) {i : Nat} {o : O} {p : Addr} {u : HO} (h : ρ[i]? = some (some (.own o))) (e : σ[i]? = some (some (.ref p))) (hB : B p = none) (hH : H p = some u) (r : RepO K B o u) :
    Step K σ B H ρ σ (Fz.upd B p u) H (ρ.set i (some (.val o.frozen))) := by
  have oa : OwnAt σ B ρ (.s i) p := ⟨⟨o, h⟩, e⟩
  have sB : FSame B (Fz.upd B p u) := FSame.upd hB
  have back : ∀ (m : Ix) (x : Addr), OwnAt σ (Fz.upd B p u) (ρ.set i (some (.val o.frozen))) m x → OwnAt σ B ρ m x := fun m x w => by
    cases m with
    | c n => exact w
    | s m =>
      obtain ⟨⟨o', w⟩, w2⟩ := w
      rcases getD_set w with ⟨_, w3, _⟩ | ⟨_, w3⟩
      · cases w3
      · exact ⟨⟨o', w3⟩, w2⟩
  refine ⟨⟨upd_frozen c.bh hH, by rw [Rho.length_set]; exact c.len, fun j s q => ?_, fun j k q z1 z2 => c.sep j k q (back j q z1) (back k q z2), c.cl.upd hB fun n o' h1 z => ?_⟩, sB, fun b w q _ => q, fun b q => q, fun b q n => ?_, fun b z => ?_⟩
  · rcases getD_set q with ⟨rfl, rfl, _⟩ | ⟨hj, q⟩
    · refine ⟨.ref p, by rw [e]; rfl, ?_⟩
      exact (r.mono sB).freeze Fz.upd_same
    · have z := c.at_ j s q
      cases s with
      | none => trivial
      | some s =>
        cases s with
        | val d =>
          obtain ⟨x, h1, h2⟩ := z
          exact ⟨x, h1, h2.mono sB⟩
        | own o' =>
          obtain ⟨p', u', e1, b1, k1, r1, oa1⟩ := c.own q
          have np : p' ≠ p := fun y => by
            subst y
            have := c.sep (.s j) (.s i) p' oa1 oa
            injection this with this
            exact hj this
          exact ⟨p', u', by rw [e1]; rfl, by rw [Fz.upd_ne np]; exact b1, k1, r1.mono sB⟩
  · have := c.sep (.c n) (.s i) p ⟨⟨o', h1⟩, z⟩ oa
    cases this
  · by_cases hb : b = p
    · subst hb
      exact .inr (.inl ⟨.s i, oa⟩)
    · rw [Fz.upd_ne hb] at q
      exact absurd n q
  · obtain ⟨m, z⟩ := z
    exact .inl ⟨m, back m b z⟩
end
theorem pd_var (i : Nat) {x : Str} {pos : Pos} (h : PE X (.Name x pos) (tVar i)) : PE X (.Name x pos) (tD X.K E (var i)) := by
  refine pe_weak h fun σ H Q ⟨B, ρ, c, a⟩ => ?_
  unfold var at a
  cases e : ρ[i]? with
  | none =>
    rw [e] at a
    exact a.elim
  | some s =>
    cases s with
    | none =>
      rw [e] at a
      exact a.elim
    | some s =>
      cases s with
      | val d =>
        rw [e] at a
        obtain ⟨v, e1, r⟩ := c.val e
        exact ⟨v, e1, a.here c r⟩
      | own o =>
        rw [e] at a
        obtain ⟨p, u, e1, b1, k1, r1, oa1⟩ := c.own e
        refine ⟨.ref p, e1, a _ _ _ (c.freeze e e1 b1 k1 r1) ?_⟩
        exact (r1.mono (FSame.upd b1)).freeze Fz.upd_same
end
section
variable {X : Cx} {E : WX} {a b : Expr} {pos : Pos} {fa fb : M D}
/-- what an operator's reading asks, by trees -/
def OpD (K : PySem.W.Frag) (r : R2) (op : D → D → Option D) : Prop := ∀ (B : Fz) (H : Hp) (σ : L2.St) (ρ : Rho) (d e z : D) (x y : V) (Q : VK), Cf K B H σ ρ → Rep K B d x → Rep K B e y → op d e = some z →
  (∀ v B' H', Step K σ B H ρ σ B' H' ρ → Rep K B' z v → Q v H') → r x y H Q
theorem two_parts {r : R2} {op : D → D → Option D} (hr : OpD X.K r op) {ta tb : TE} (ka : ∀ σ H Q, tD X.K E fa σ H Q → ta σ H Q) (kb : ∀ σ H Q, tD X.K E fb σ H Q → tb σ H Q) :
    ∀ σ H Q, tD X.K E (fa >>= fun d => fb >>= fun e => M.opt (op d e)) σ H Q → tOp r ta tb σ H Q := by
  rintro σ H Q ⟨B, ρ, c, h⟩
  refine ka _ _ _ ⟨B, ρ, c, h.seq.imp ?_⟩
  rintro d ρ' x B' H1 - - - ⟨d, B1, ρ1, st1, rx, h1⟩
  refine kb _ _ _ ⟨B1, ρ1, st1.cf, h1.seq.imp ?_⟩
  rintro e ρ' y B' H2 - - - ⟨e, B2, ρ2, st2, ry, h2⟩
  obtain ⟨z, ez, k⟩ := h2.opt
  exact hr B2 H2 σ ρ2 d e z x y Q st2.cf (Rep.mono st2.bb rx) ry ez k
theorem pd_bin {o : Operator} {r : R2} {op : D → D → Option D} (hr : OpD X.K r op) (ho : OpR X (binaryOp o) r) (ha : PE X a (tD X.K E fa)) (hb : PE X b (tD X.K E fb)) :
    PE X (.BinOp a o b pos) (tD X.K E (fa >>= fun d => fb >>= fun e => M.opt (op d e))) :=
  pe_weak (pe_op ho ha hb) (two_parts hr (fun _ _ _ h => h) fun _ _ _ h => h)
theorem pd_cmp {o : CmpOp} {r : R2} {op : D → D → Option D} (hr : OpD X.K r op) (ho : OpR X (compareOp o) r) (ha : PE X a (tD X.K E fa)) (hb : PE X b (tD X.K E fb)) (hm : behindInMarks o b = false) :
    PE X (.Compare a [o] [b] pos) (tD X.K E (fa >>= fun d => fb >>= fun e => M.opt (op d e))) :=
  pe_weak (pe_cmpR ho ha hb hm) (two_parts hr (fun _ _ _ h => h) fun _ _ _ h => h)
end
end Nc
namespace Nc
open PySem PySem.Spec PyProof.Rows L2
theorem tuple_mul1 (l : Addr) (items : Array Value) (n : Nat) (dd : Option Addr) (sl : Array (Option Value)) (u : Tok) :
    Meets (Builtin.«tuple.__mul__» ⟨[.ref l, .int 1 u], []⟩) (fun _ R s => s.heap.get? l = some { cls := .type "tuple", dict := dd, data := .seq items n, slots := sl } ∧
      R (.ok (.ret (Value.ref l))) s) :=
  .of_wp fun prog w A R s h => by
    obtain ⟨hp, g, d, tk, os⟩ := s
    obtain ⟨hl, h⟩ := h
    have f1 := AutoSeq1.idx_int
    have c0 : (decide ((1 : Int) < -(2 ^ 63)) || decide ((1 : Int) ≥ 2 ^ 63)) = false := by decide
    have c1 : (items.isEmpty || (1 : Int) == 1) = true := by simp
    wp_walk using wpAny_loadPart' hl
    repeat (first
      | (refine wpAny_ite_false (decide_eq_false (by rw [c0]; exact Bool.false_ne_true)) ?_; wp_walk using wpAny_loadPart' hl)
      | (refine wpAny_ite_true (decide_eq_true (by rw [c1])) ?_; wp_walk using wpAny_loadPart' hl))
    exact ⟨_, rfl, h⟩
def rRep1 (K : PySem.W.Frag) : R2 := fun x y H Q => ∃ l xs, x = .ref l ∧ y = .int 1 ∧ SqT K H l xs ∧ Q (.ref l) H
section
variable {X : Cx}
theorem op_rep1 : OpR X (binaryOp .Mult) (rRep1 X.K) := by
  intro pins s σ H x y v u Q I rx ry h
  obtain ⟨l, xs, rfl, rfl, hT, q⟩ := h
  cases rx
  obtain ⟨t, rfl⟩ := ry
  obtain ⟨its, r, ⟨⟨cls, dd, data, sl⟩, ho, hc, n, hd⟩, hs⟩ := I.tuple hT
  simp only at hc hd
  subst hc hd
  refine wpAny_binaryOp_repeat_ref (T := "tuple") (U := "int") (by decide) ⟨_, ho, rfl⟩ (fun s' => typeIs_int s' 1 t) noFill_tuple_mul F.fills_int_mul F.slot_int_rmul repeat_tuple F.slot_int_index.lookup
    (call_meets F.slot_int_rmul (typeIs_int s 1 t) F.entry_int_rmul (F.args_int_rmul_2 _ _) (int_rmul_tuple 1 t l its.toArray n dd sl)
      ⟨ho, rfl, ⟨_, ho, rfl⟩, call_meets F.slot_tuple_mul ⟨_, ho, rfl⟩ F.entry_tuple_mul (F.args_tuple_mul_2 _ _) (tuple_mul1 l its.toArray n dd sl t) ⟨ho, ?_⟩⟩)
  exact ⟨.ref l, H, I, rfl, q⟩
end
end Nc
namespace Nc
open PySem PySem.Spec PyProof.Rows L2
def addD : D → D → Option D
  | .int a, .int b => some (.int (a + b))
  | .str a, .str b => if a.length + b.length ≤ sizeLine then some (.str (a ++ b)) else none
  | .lst a, .lst b => if a.length + b.length ≤ sizeLine then some (.lst (a ++ b)) else none
  | .tup a, .tup b => if a.length + b.length ≤ sizeLine then some (.tup (a ++ b)) else none
  | _, _ => none
def i2 (C : Int → Int → Bool) (g : Int → Int → Int) : D → D → Option D
  | .int a, .int b => if C a b then some (.int (g a b)) else none
  | _, _ => none
def subD := i2 (fun _ _ => true) fun a b => a - b
def small64i (i : Int) : Bool := decide (-(2 ^ 64) < i) && decide (i < 2 ^ 64)
def mulD : D → D → Option D
  | .int a, .int b => if small64i a || small64i b then some (.int (a * b)) else none
  | .lst a, .int b => if decide (-(2 ^ 63) ≤ b) && decide (b < 2 ^ 63) && decide (a.length * b.toNat ≤ sizeLine) then some (.lst (List.replicate b.toNat a).flatten) else none
  | .tup a, .int b => if b = 1 then some (.tup a) else if decide (a ≠ []) && decide (2 ≤ b) && decide (b ≤ 1000) && decide (a.length ≤ 1000) then some (.tup (List.replicate b.toNat a).flatten) else none
  | _, _ => none
def fdivD := i2 (fun _ j => decide (0 < j) && decide (j.natAbs.log2 < 9000)) fun a b => a / b
def modD := i2 (fun _ j => decide (0 < j)) fun a b => a % b
def powC (i j : Int) : Bool := decide (0 ≤ j) && decide (j ≤ 1000000) && decide (i.natAbs < 2 ^ 64)
def powD := i2 powC fun a b => a ^ b.toNat
def shlD := i2 powC fun a b => a * 2 ^ b.toNat
def shrD := i2 (fun _ j => decide (0 ≤ j)) fun a b => a / 2 ^ b.toNat
def andD := i2 (fun _ _ => true) Builtin.bitAnd
def orD := i2 (fun _ _ => true) Builtin.bitOr
section
variable {K : PySem.W.Frag}
theorem opd_i2 {Cp : Int → Int → Prop} {C : Int → Int → Bool} {g : Int → Int → Int} (h : ∀ i j, C i j = true → Cp i j) : OpD K (rI Cp fun i j => .int (g i j)) (i2 C g) := by
  intro B H σ ρ d e z x y Q c rx ry ez k
  cases d <;> cases e <;> simp only [i2, reduceCtorEq] at ez
  rename_i i j
  simp only [Rep] at rx ry
  subst rx
  subst ry
  split at ez
  · rename_i hc
    cases ez
    exact ⟨i, j, rfl, rfl, h i j hc, k _ _ _ (Step.refl c) (by simp only [Rep])⟩
  · cases ez
theorem opd_i20 {g : Int → Int → Int} : OpD K (rI0 fun i j => .int (g i j)) (i2 (fun _ _ => true) g) := by
  intro B H σ ρ d e z x y Q c rx ry ez k
  cases d <;> cases e <;> simp only [i2, reduceCtorEq] at ez
  rename_i i j
  simp only [Rep] at rx ry
  subst rx
  subst ry
  simp only [if_true] at ez
  cases ez
  exact ⟨i, j, rfl, rfl, k _ _ _ (Step.refl c) (by simp only [Rep])⟩
theorem opd_add : OpD K (fun x y H Q => rI0 (fun i j => .int (i + j)) x y H Q ∨ (∃ i j, x = .str i ∧ y = .str j ∧ i.length + j.length ≤ sizeLine ∧ Q (.str (i ++ j)) H) ∨ rCat x y H Q ∨ rCatA K x y H Q) addD := by
  intro B H σ ρ d e z x y Q c rx ry ez k
  cases d <;> cases e <;> simp only [addD, reduceCtorEq] at ez
  · simp only [Rep] at rx ry
    subst rx ry
    cases ez
    exact .inl ⟨_, _, rfl, rfl, k _ _ _ (Step.refl c) (by simp only [Rep])⟩
  · simp only [Rep] at rx ry
    subst rx ry
    split at ez
    · rename_i hc
      cases ez
      exact .inr (.inl ⟨_, _, rfl, rfl, hc, k _ _ _ (Step.refl c) (by simp only [Rep])⟩)
    · cases ez
  · simp only [Rep] at rx ry
    obtain ⟨p, xs, rfl, h1, h2⟩ := rx
    obtain ⟨q, ys, rfl, g1, g2⟩ := ry
    split at ez
    · rename_i hc
      cases ez
      rw [h2.length, g2.length] at hc
      refine .inr (.inr (.inr ⟨p, q, xs, ys, rfl, rfl, Same.sqt c.bh h1, Same.sqt c.bh g1, hc, ?_⟩))
      have fin : ∀ l, H l = none → Q (.ref l) (upd H l (.tup (xs ++ ys))) := fun l hl => k _ _ _ (c.laid hl _) (by
        simp only [Rep]
        exact ⟨l, xs ++ ys, rfl, upd_same, (h2.append g2).mono (c.laid hl (.tup (xs ++ ys))).bb⟩)
      have fx : ys = [] → Q (.ref p) H := fun e0 => k _ _ _ (Step.refl c) (by
        subst e0
        simp only [Rep]
        exact ⟨p, xs, rfl, h1, by simpa using h2.append g2⟩)
      have fy : xs = [] → Q (.ref q) H := fun e0 => k _ _ _ (Step.refl c) (by
        subst e0
        simp only [Rep]
        exact ⟨q, ys, rfl, g1, by simpa using h2.append g2⟩)
      first
        | exact ⟨fun e0 => fy e0, fun e0 => ⟨fun e1 => fx e1, fun _ => fin⟩⟩
        | exact ⟨fun _ e0 => fx e0, fun _ _ => fin⟩
        | exact ⟨fun e0 => fx e0, fun e0 => fin⟩
        | exact ⟨fy, fun _ => fx, fun _ _ => fin⟩
        | exact ⟨fx, fun _ => fy, fun _ _ => fin⟩
        | exact ⟨fy, fx, fun _ _ => fin⟩
    · cases ez
  · simp only [Rep] at rx ry
    obtain ⟨p, xs, rfl, h1, h2⟩ := rx
    obtain ⟨q, ys, rfl, g1, g2⟩ := ry
    split at ez
    · rename_i hc
      cases ez
      rw [h2.length, g2.length] at hc
      refine .inr (.inr (.inl ⟨p, q, xs, ys, rfl, rfl, c.bh _ _ h1, c.bh _ _ g1, hc, fun l hl => k _ _ _ (c.laid hl _) ?_⟩))
      simp only [Rep]
      exact ⟨l, xs ++ ys, rfl, upd_same, (h2.append g2).mono (c.laid hl (.lst (xs ++ ys))).bb⟩
    · cases ez
theorem Reps.rep {B : Fz} {ds : List D} {vs : List V} (h : Reps K B ds vs) : ∀ n : Nat, Reps K B (List.replicate n ds).flatten (List.replicate n vs).flatten
  | 0 => Reps.nil
  | n + 1 => by
    rw [List.replicate_succ, List.replicate_succ, List.flatten_cons, List.flatten_cons]
    exact h.append (h.rep n)
theorem opd_mul : OpD K (fun x y H Q => rI CMul (fun i j => .int (i * j)) x y H Q ∨ rRep x y H Q ∨ rRepT K x y H Q ∨ rRep1 K x y H Q) mulD := by
  intro B H σ ρ d e z x y Q c rx ry ez k
  cases d <;> cases e <;> simp only [mulD, reduceCtorEq] at ez
  · simp only [Rep] at rx ry
    subst rx ry
    split at ez
    · rename_i hc
      cases ez
      refine .inl ⟨_, _, rfl, rfl, ?_, k _ _ _ (Step.refl c) (by simp only [Rep])⟩
      rw [Bool.or_eq_true] at hc
      rcases hc with hc | hc
      · simp only [small64i, Bool.and_eq_true, decide_eq_true_eq] at hc
        exact .inl hc
      · simp only [small64i, Bool.and_eq_true, decide_eq_true_eq] at hc
        exact .inr hc
    · cases ez
  · simp only [Rep] at rx ry
    obtain ⟨p, xs, rfl, h1, h2⟩ := rx
    subst ry
    split at ez
    · rename_i hb
      cases ez
      subst hb
      refine .inr (.inr (.inr ⟨p, xs, rfl, rfl, Same.sqt c.bh h1, k _ _ _ (Step.refl c) ?_⟩))
      simp only [Rep]
      exact ⟨p, xs, rfl, h1, h2⟩
    split at ez
    · rename_i hc
      cases ez
      simp only [Bool.and_eq_true, decide_eq_true_eq] at hc
      obtain ⟨⟨⟨c1, c2⟩, c3⟩, c4⟩ := hc
      rename_i ds b _
      refine .inr (.inr (.inl ⟨p, b, xs, rfl, rfl, Same.sqt c.bh h1, fun e0 => ?_, c2, c3, by rw [← h2.length]; exact c4, fun l hl => k _ _ _ (c.laid hl _) ?_⟩))
      · subst e0
        have := h2.length
        rw [List.length_nil] at this
        exact c1 (List.length_eq_zero_iff.mp this)
      · simp only [Rep]
        exact ⟨l, _, rfl, upd_same, (h2.rep _).mono (c.laid hl _).bb⟩
    · cases ez
  · simp only [Rep] at rx ry
    obtain ⟨p, xs, rfl, h1, h2⟩ := rx
    subst ry
    split at ez
    · rename_i hc
      cases ez
      simp only [Bool.and_eq_true, decide_eq_true_eq] at hc
      obtain ⟨⟨c1, c2⟩, c3⟩ := hc
      rw [h2.length] at c3
      rename_i ds b
      refine .inr (.inl ⟨p, b, xs, rfl, rfl, c.bh _ _ h1, c1, c2, c3, fun l hl => k _ _ _ (c.laid hl _) ?_⟩)
      simp only [Rep]
      exact ⟨l, _, rfl, upd_same, (h2.rep _).mono (c.laid hl _).bb⟩
    · cases ez
end
section
variable {X : Cx} {E : WX} {a b : Expr} {pos : Pos} {fa fb : M D}
abbrev b2 (op : D → D → Option D) (fa fb : M D) : M D := fa >>= fun d => fb >>= fun e => M.opt (op d e)
theorem pd_add (ha : PE X a (tD X.K E fa)) (hb : PE X b (tD X.K E fb)) : PE X (.BinOp a .Add b pos) (tD X.K E (b2 addD fa fb)) := pd_bin opd_add (op_add.or (op_add_str.or (op_cat.or op_catA))) ha hb
theorem pd_sub (ha : PE X a (tD X.K E fa)) (hb : PE X b (tD X.K E fb)) : PE X (.BinOp a .Sub b pos) (tD X.K E (b2 subD fa fb)) := pd_bin opd_i20 op_sub ha hb
theorem pd_mul (ha : PE X a (tD X.K E fa)) (hb : PE X b (tD X.K E fb)) : PE X (.BinOp a .Mult b pos) (tD X.K E (b2 mulD fa fb)) := pd_bin opd_mul (op_mul.or (op_rep.or (op_repT.or op_rep1))) ha hb
theorem pd_fdiv (ha : PE X a (tD X.K E fa)) (hb : PE X b (tD X.K E fb)) : PE X (.BinOp a .FloorDiv b pos) (tD X.K E (b2 fdivD fa fb)) := pd_bin (opd_i2 fun i j h => by simpa [CDivW] using h) op_fdivW ha hb
theorem pd_mod (ha : PE X a (tD X.K E fa)) (hb : PE X b (tD X.K E fb)) : PE X (.BinOp a .Mod b pos) (tD X.K E (b2 modD fa fb)) := pd_bin (opd_i2 fun i j h => by simpa using h) op_mod ha hb
theorem powC_ok {i j : Int} (h : powC i j = true) : CPow i j := by
  simp only [powC, Bool.and_eq_true, decide_eq_true_eq] at h
  exact ⟨h.1.1, h.1.2, h.2⟩
theorem pd_pow (ha : PE X a (tD X.K E fa)) (hb : PE X b (tD X.K E fb)) : PE X (.BinOp a .Pow b pos) (tD X.K E (b2 powD fa fb)) := pd_bin (opd_i2 fun i j h => powC_ok h) op_pow ha hb
theorem pd_shl (ha : PE X a (tD X.K E fa)) (hb : PE X b (tD X.K E fb)) : PE X (.BinOp a .LShift b pos) (tD X.K E (b2 shlD fa fb)) := pd_bin (opd_i2 fun i j h => powC_ok h) op_shl ha hb
theorem pd_shr (ha : PE X a (tD X.K E fa)) (hb : PE X b (tD X.K E fb)) : PE X (.BinOp a .RShift b pos) (tD X.K E (b2 shrD fa fb)) := pd_bin (opd_i2 fun i j h => by simpa using h) op_shr ha hb
theorem pd_and (ha : PE X a (tD X.K E fa)) (hb : PE X b (tD X.K E fb)) : PE X (.BinOp a .BitAnd b pos) (tD X.K E (b2 andD fa fb)) := pd_bin opd_i20 op_and ha hb
theorem pd_or (ha : PE X a (tD X.K E fa)) (hb : PE X b (tD X.K E fb)) : PE X (.BinOp a .BitOr b pos) (tD X.K E (b2 orD fa fb)) := pd_bin opd_i20 op_or ha hb
/-- -a of an int -/
def negD : D → Option D
  | .int i => some (.int (-i))
  | _ => none
theorem pd_neg (ha : PE X a (tD X.K E fa)) : PE X (.UnaryOp .USub a pos) (tD X.K E (fa >>= fun d => M.opt (negD d))) := by
  refine pe_weak (pe_un un_neg ha) fun σ H Q ⟨B, ρ, c, h⟩ => ⟨B, ρ, c, h.seq.imp ?_⟩
  rintro d ρ' x B' H1 - - - ⟨d, B1, ρ1, st1, rx, h1⟩
  obtain ⟨z, ez, k⟩ := h1.opt
  cases d <;> simp only [negD, reduceCtorEq] at ez
  cases ez
  have rx' := rep_int rx
  exact ⟨_, rx', k _ _ _ (Step.refl st1.cf) (by simp only [RD, Rep])⟩
end
mutual
def D.py : D → Option PyData
  | .non => some .none
  | .bl b => some (.bool b)
  | .int i => some (.int i)
  | .str z => some (.str z)
  | .tup ds => (D.pys ds).map .tuple
  | .lst ds => (D.pys ds).map .list
  | _ => none
def D.pys : List D → Option (List PyData)
  | [] => some []
  | d :: ds => match D.py d, D.pys ds with
    | some x, some xs => some (x :: xs)
    | _, _ => none
end
section
variable {K : PySem.W.Frag} {B : Fz} {H : Hp}
mutual
theorem Rep.dp (s : Same B.h H) : ∀ {d : D} {v : V} {p : PyData}, d.py = some p → Rep K B d v → Dp K H v p
  | .non, _, _, e, h => by
    simp only [Rep, D.py] at h e
    cases e
    subst h
    exact .non
  | .bl b, _, _, e, h => by
    simp only [Rep, D.py] at h e
    cases e
    subst h
    exact .bl b
  | .int i, _, _, e, h => by
    simp only [Rep, D.py] at h e
    cases e
    subst h
    exact .int i
  | .str z, _, _, e, h => by
    simp only [Rep, D.py] at h e
    cases e
    subst h
    exact .str z
  | .tup ds, _, _, e, h => by
    simp only [Rep, D.py] at h e
    obtain ⟨a, xs, rfl, h2, h3⟩ := h
    cases q : D.pys ds with
    | none =>
      rw [q] at e
      cases e
    | some ps =>
      rw [q] at e
      cases e
      exact .tup (Same.sqt s h2) (Reps.dp s q h3)
  | .lst ds, _, _, e, h => by
    simp only [Rep, D.py] at h e
    obtain ⟨a, xs, rfl, h2, h3⟩ := h
    cases q : D.pys ds with
    | none =>
      rw [q] at e
      cases e
    | some ps =>
      rw [q] at e
      cases e
      exact .lst (SqL.of (s _ _ h2)) (Reps.dp s q h3)
  | .dk _ _, _, _, e, _ => by
    simp only [D.py] at e
    cases e
  | .dt _ _, _, _, e, _ => by
    simp only [D.py] at e
    cases e
  | .dl _ _, _, _, e, _ => by
    simp only [D.py] at e
    cases e
  | .ob _ _ _, _, _, e, _ => by
    simp only [D.py] at e
    cases e
  | .xn _ _ _ _, _, _, e, _ => by
    simp only [D.py] at e
    cases e
  | .adr _, _, _, e, _ => by
    simp only [D.py] at e
    cases e
  | .any _, _, _, e, _ => by
    simp only [D.py] at e
    cases e
  | .xp _ _ _ _, _, _, e, _ => by
    simp only [D.py] at e
    cases e
  | .ty _, _, _, e, _ => by
    simp only [D.py] at e
    cases e
theorem Reps.dp (s : Same B.h H) : ∀ {ds : List D} {vs : List V} {ps : List PyData}, D.pys ds = some ps → Reps K B ds vs → DpAll K H vs ps
  | [], _, _, e, h => by
    simp only [Reps, D.pys] at h e
    cases e
    subst h
    exact .nil
  | d :: ds, _, _, e, h => by
    simp only [Reps, D.pys] at h e
    obtain ⟨x, xs, rfl, h2, h3⟩ := h
    cases q : D.py d with
    | none =>
      rw [q] at e
      cases e
    | some p =>
      cases r : D.pys ds with
      | none =>
        rw [q, r] at e
        cases e
      | some ps =>
        rw [q, r] at e
        cases e
        exact .cons (Rep.dp s q h2) (Reps.dp s r h3)
end
end
/-- scalars of one kind, or none of them -/
def eqS : D → D → Option Bool
  | .non, .non => some true
  | .non, .int _ => some false
  | .int _, .non => some false
  | .non, .bl _ => some false
  | .bl _, .non => some false
  | .non, .str _ => some false
  | .str _, .non => some false
  | .int a, .int b => some (decide (a = b))
  | .bl a, .bl b => some (decide (a = b))
  | .str a, .str b => some (decide (a = b))
  | .int _, .str _ => some false
  | .str _, .int _ => some false
  | .bl _, .str _ => some false
  | .str _, .bl _ => some false
  | _, _ => none
def eqB (d e : D) : Option Bool := match eqS d e with
  | some b => some b
  | none => match d.py, e.py with
    | some x, some y => if SeqAt.shaped x && SeqAt.shaped y then some (PyData.eqv x y) else none
    | _, _ => none
def eqD (d e : D) : Option D := (eqB d e).map .bl
def neD (d e : D) : Option D := (eqB d e).map fun b => .bl (!b)
section
variable {K : PySem.W.Frag}
theorem eqS_scal {B : Fz} {d e : D} {x y : V} {b : Bool} (h : eqS d e = some b) (rx : Rep K B d x) (ry : Rep K B e y) : scal x y = true ∧ decide (x = y) = b := by
  cases d <;> cases e <;> simp only [eqS, reduceCtorEq] at h <;> simp only [Rep] at rx ry <;> subst rx ry <;> cases h <;> simp [scal]
def cmpI (p : Int → Int → Bool) (q : List Nat → List Nat → Bool) : D → D → Option D
  | .int a, .int b => some (.bl (p a b))
  | .str a, .str b => some (.bl (q a.cps.toList b.cps.toList))
  | _, _ => none
def ltD := cmpI (fun a b => decide (a < b)) fun a b => decide (a < b)
def leD := cmpI (fun a b => decide (a ≤ b)) fun a b => !decide (b < a)
def gtD := cmpI (fun a b => decide (b < a)) fun a b => decide (b < a)
def geD := cmpI (fun a b => decide (b ≤ a)) fun a b => !decide (a < b)
theorem opd_cmpI {p : Int → Int → Bool} {q : List Nat → List Nat → Bool} : OpD K (fun x y H Q => rI0 (fun i j => .bl (p i j)) x y H Q ∨ (∃ i j, x = .str i ∧ y = .str j ∧ Q (.bl (q i.cps.toList j.cps.toList)) H)) (cmpI p q) := by
  intro B H σ ρ d e z x y Q c rx ry ez k
  cases d <;> cases e <;> simp only [cmpI, reduceCtorEq] at ez
  · simp only [Rep] at rx ry
    subst rx ry
    cases ez
    exact .inl ⟨_, _, rfl, rfl, k _ _ _ (Step.refl c) (by simp only [Rep])⟩
  · simp only [Rep] at rx ry
    subst rx ry
    cases ez
    exact .inr ⟨_, _, rfl, rfl, k _ _ _ (Step.refl c) (by simp only [Rep])⟩
/-- is None, is not None -/
def isN : D → D → Option D
  | .non, .non => some (.bl true)
  | .bl _, .non => some (.bl false)
  | .int _, .non => some (.bl false)
  | .str _, .non => some (.bl false)
  | .tup _, .non => some (.bl false)
  | .lst _, .non => some (.bl false)
  | .dk _ _, .non => some (.bl false)
  | .dt _ _, .non => some (.bl false)
  | .ob _ _ _, .non => some (.bl false)
  | _, _ => none
def notN (d e : D) : Option D := match isN d e with
  | some (.bl b) => some (.bl (!b))
  | _ => none
theorem isN_dec {B : Fz} {d e z : D} {x y : V} (rx : Rep K B d x) (ry : Rep K B e y) (ez : isN d e = some z) : y = .non ∧ z = .bl (decide (x = .non)) := by
  cases d <;> cases e <;> simp only [isN, reduceCtorEq] at ez <;> simp only [Rep] at rx ry <;> cases ez <;> subst ry
  case tup.non => obtain ⟨a, xs, rfl, _⟩ := rx; simp
  case lst.non => obtain ⟨a, xs, rfl, _⟩ := rx; simp
  case dk.non => obtain ⟨a, xs, rfl, _⟩ := rx; simp
  case dt.non => obtain ⟨a, xs, rfl, _⟩ := rx; simp
  case ob.non => obtain ⟨a, dx, xs, rfl, _⟩ := rx; simp
  all_goals (subst rx; simp)
theorem opd_notN : OpD K (fun x y H Q => y = .non ∧ Q (.bl (!decide (x = .non))) H) notN := by
  intro B H σ ρ d e z x y Q c rx ry ez k
  unfold notN at ez
  split at ez
  · rename_i b hb
    obtain ⟨h1, h2⟩ := isN_dec rx ry hb
    cases h2
    cases ez
    exact ⟨h1, k _ _ _ (Step.refl c) (by simp only [Rep])⟩
  · cases ez
end
section
variable {X : Cx} {E : WX} {a b : Expr} {pos : Pos} {fa fb : M D}
theorem pd_lt (ha : PE X a (tD X.K E fa)) (hb : PE X b (tD X.K E fb)) : PE X (.Compare a [.Lt] [b] pos) (tD X.K E (b2 ltD fa fb)) := pd_cmp opd_cmpI (op_lt.or op_lt_str) ha hb (nomark _)
theorem pd_notN (ha : PE X a (tD X.K E fa)) (hb : PE X b (tD X.K E fb)) : PE X (.Compare a [.IsNot] [b] pos) (tD X.K E (b2 notN fa fb)) := pd_cmp opd_notN op_notN ha hb (nomark _)
def asB : D → Option Bool
  | .bl b => some b
  | _ => none
def tst (f : M D) : M Bool := f >>= fun d => M.opt (asB d)
theorem pt_tst {e : Expr} (h : PE X e (tD X.K E fa)) (he : ∀ whole, isTrue e X.env whole = (do let v ← whole; standAt e.pos; holding [v] (truthy v)) := by intro _; rfl) : PT X e (tT X.K E (tst fa)) := by
  refine pt_weak (pt_val h he) fun σ H Q ⟨B, ρ, c, h⟩ => ⟨B, ρ, c, h.seq.imp ?_⟩
  rintro d ρ' x B' H1 - - - ⟨d, B1, ρ1, st1, rx, h1⟩
  obtain ⟨z, ez, k⟩ := h1.opt
  cases d <;> simp only [asB, reduceCtorEq] at ez
  cases ez
  have rx' := rep_bl rx
  exact ⟨_, rx', k _ _ _ (Step.refl st1.cf) rfl⟩
variable {ta tb : M Bool}
/-- a comparison as a test -/
theorem pt_cmpD {o : CmpOp} {r : R2} {op : D → D → Option D} (hr : OpD X.K r op) (ho : OpR X (compareOp o) r) (ha : PE X a (tD X.K E fa)) (hb : PE X b (tD X.K E fb)) (hm : behindInMarks o b = false) :
    PT X (.Compare a [o] [b] pos) (tT X.K E (tst (b2 op fa fb))) := by
  refine pt_weak (pt_cmpR ho ha hb hm) fun σ H Q ⟨B, ρ, c, h⟩ => ?_
  refine two_parts hr (fun _ _ _ h => h) (fun _ _ _ h => h) σ H _ ⟨B, ρ, c, h.seq.imp ?_⟩
  rintro d ρ' x B' H1 - - - ⟨d, B1, ρ1, st1, rx, h1⟩
  obtain ⟨z, ez, k⟩ := h1.opt
  cases d <;> simp only [asB, reduceCtorEq] at ez
  cases ez
  have rx' := rep_bl rx
  exact ⟨_, rx', k _ _ _ (Step.refl st1.cf) rfl⟩
theorem pt_lt (ha : PE X a (tD X.K E fa)) (hb : PE X b (tD X.K E fb)) : PT X (.Compare a [.Lt] [b] pos) (tT X.K E (tst (b2 ltD fa fb))) := pt_cmpD opd_cmpI (op_lt.or op_lt_str) ha hb (nomark _)
theorem pt_le (ha : PE X a (tD X.K E fa)) (hb : PE X b (tD X.K E fb)) : PT X (.Compare a [.LtE] [b] pos) (tT X.K E (tst (b2 leD fa fb))) := pt_cmpD opd_cmpI (op_le.or op_le_str) ha hb (nomark _)
theorem pt_gt (ha : PE X a (tD X.K E fa)) (hb : PE X b (tD X.K E fb)) : PT X (.Compare a [.Gt] [b] pos) (tT X.K E (tst (b2 gtD fa fb))) := pt_cmpD opd_cmpI (op_gt.or op_gt_str) ha hb (nomark _)
variable {rest : List Expr}
theorem wd_and1 (ha : PT X a (tT X.K E ta)) : PW X (.BoolOp .And [a] pos) (tT X.K E ta) := pw_and1 ha
theorem wd_or1 (ha : PT X a (tT X.K E ta)) : PW X (.BoolOp .Or [a] pos) (tT X.K E ta) := pw_or1 ha
def andM (f g : M Bool) : M Bool := f >>= fun b => if b then g else M.ret false
def orM (f g : M Bool) : M Bool := f >>= fun b => if b then M.ret true else g
theorem wd_and (ha : PT X a (tT X.K E ta)) (hb : PW X (.BoolOp .And (b :: rest) pos) (tT X.K E tb)) : PW X (.BoolOp .And (a :: b :: rest) pos) (tT X.K E (andM ta tb)) := by
  refine pw_weak (pw_and ha hb) fun σ H Q ⟨B, ρ, c, h⟩ => ⟨B, ρ, c, h.seq.imp ?_⟩
  rintro d ρ' x B' H1 - - - ⟨d, B1, ρ1, st1, rx, h1⟩
  have e : d = x := rx
  subst e
  cases d with
  | true => exact iteT ⟨B1, ρ1, st1.cf, h1⟩
  | false => exact iteF (h1.here st1.cf rfl)
theorem wd_or (ha : PT X a (tT X.K E ta)) (hb : PW X (.BoolOp .Or (b :: rest) pos) (tT X.K E tb)) : PW X (.BoolOp .Or (a :: b :: rest) pos) (tT X.K E (orM ta tb)) := by
  refine pw_weak (pw_or ha hb) fun σ H Q ⟨B, ρ, c, h⟩ => ⟨B, ρ, c, h.seq.imp ?_⟩
  rintro d ρ' x B' H1 - - - ⟨d, B1, ρ1, st1, rx, h1⟩
  have e : d = x := rx
  subst e
  cases d with
  | false => exact iteF ⟨B1, ρ1, st1.cf, h1⟩
  | true => exact iteT (h1.here st1.cf rfl)
def notM (f : M Bool) : M Bool := f >>= fun b => M.ret (!b)
theorem pt_notD (ha : PT X a (tT X.K E ta)) : PT X (.UnaryOp .Not a pos) (tT X.K E (notM ta)) := by
  refine pt_weak (pt_not ha) fun σ H Q ⟨B, ρ, c, h⟩ => ⟨B, ρ, c, h.seq.imp ?_⟩
  rintro d ρ' x B' H1 - - - ⟨d, B1, ρ1, st1, rx, h1⟩
  have e : d = x := rx
  subst e
  exact h1.here st1.cf rfl
def andV (f g : M D) : M D := f >>= fun d => M.opt (asB d) >>= fun b => if b then g else M.ret (.bl false)
def orV (f g : M D) : M D := f >>= fun d => M.opt (asB d) >>= fun b => if b then M.ret (.bl true) else g
theorem At.optSeq {α γ δ : Type} {K : PySem.W.Frag} {E : WX} {R' : Rl γ δ} {σ : L2.St} {B : Fz} {H : Hp} {ρ : Rho} {Q : δ → Hp → Prop} {o : Option α} {g : α → M γ} (h : At K E R' σ B H ρ Q ((M.opt o >>= g) ρ)) : ∃ a, o = some a ∧ At K E R' σ B H ρ Q (g a ρ) := by
  cases o with
  | none => exact h.elim
  | some a => exact ⟨a, rfl, h⟩
theorem pd_andV (ha : PE X a (tD X.K E fa)) (hb : PE X (.BoolOp .And (b :: rest) pos) (tD X.K E fb)) : PE X (.BoolOp .And (a :: b :: rest) pos) (tD X.K E (andV fa fb)) := by
  refine pe_weak (pe_and ha hb) fun σ H Q ⟨B, ρ, c, h⟩ => ⟨B, ρ, c, h.seq.imp ?_⟩
  rintro d ρ' x B' H1 - - - ⟨d, B1, ρ1, st1, rx, h1⟩
  obtain ⟨z, ez, k⟩ := h1.optSeq
  cases d <;> simp only [asB, reduceCtorEq] at ez
  cases ez
  have rx' := rep_bl rx
  refine ⟨_, rx', ?_⟩
  cases z with
  | true => exact iteT ⟨B1, ρ1, st1.cf, k⟩
  | false => exact iteF (k.here st1.cf (by simp only [RD, Rep]))
theorem pd_one {o} (ha : PE X a (tD X.K E fa)) : PE X (.BoolOp o [a] pos) (tD X.K E fa) := pe_one ha
def notV (f : M D) : M D := f >>= fun d => M.opt (asB d) >>= fun b => M.ret (.bl (!b))
theorem pd_notV (ha : PE X a (tD X.K E fa)) : PE X (.UnaryOp .Not a pos) (tD X.K E (notV fa)) := by
  refine pe_weak (pe_not ha) fun σ H Q ⟨B, ρ, c, h⟩ => ⟨B, ρ, c, h.seq.imp ?_⟩
  rintro d ρ' x B' H1 - - - ⟨d, B1, ρ1, st1, rx, h1⟩
  obtain ⟨z, ez, k⟩ := h1.optSeq
  cases d <;> simp only [asB, reduceCtorEq] at ez
  cases ez
  have rx' := rep_bl rx
  exact ⟨_, rx', k.here st1.cf (by simp only [RD, Rep])⟩
def ifM {α : Type} (t : M Bool) (f g : M α) : M α := t >>= fun b => if b then f else g
theorem pd_if {c : Expr} (hc : PT X c (tT X.K E ta)) (ha : PE X a (tD X.K E fa)) (hb : PE X b (tD X.K E fb)) : PE X (.IfExp c a b pos) (tD X.K E (ifM ta fa fb)) := by
  refine pe_weak (pe_ifExp hc ha hb) fun σ H Q ⟨B, ρ, c, h⟩ => ⟨B, ρ, c, h.seq.imp ?_⟩
  rintro d ρ' x B' H1 - - - ⟨d, B1, ρ1, st1, rx, h1⟩
  have e : d = x := rx
  subst e
  cases d with
  | true => exact iteT ⟨B1, ρ1, st1.cf, h1⟩
  | false => exact iteF ⟨B1, ρ1, st1.cf, h1⟩
end
end Nc
namespace Nc
open PySem PySem.Spec PyProof.Rows L2
/-- the tree, its top read in the whole heap -/
def RepT (K : PySem.W.Frag) (B : Fz) (H : Hp) : D → V → Prop
  | .lst ds, v => ∃ a xs, v = .ref a ∧ H a = some (.lst xs) ∧ Reps K B ds xs
  | .tup ds, v => ∃ a xs, v = .ref a ∧ H a = some (.tup xs) ∧ Reps K B ds xs
  | .dk ks ds, v => ∃ a xs, v = .ref a ∧ H a = some (.dK (ks.zip xs)) ∧ ks.length = xs.length ∧ Reps K B ds xs
  | .dt ks ds, v => ∃ a xs, v = .ref a ∧ H a = some (.dT (ks.zip xs)) ∧ ks.length = xs.length ∧ Reps K B ds xs
  | .dl ks ds, v => ∃ a o xs, v = .ref a ∧ H a = some (.frz o (.dT (ks.zip xs))) ∧ ks.length = xs.length ∧ Reps K B ds xs
  | .ob C fs ds, v => ∃ a dx xs, v = .ref a ∧ H a = some (.ins C dx (fs.zip xs)) ∧ fs.length = xs.length ∧ Reps K B ds xs
  | d, v => Rep K B d v
section
variable {K : PySem.W.Frag} {B : Fz} {H : Hp}
theorem Rep.top (s : Same B.h H) : ∀ {d : D} {v : V}, Rep K B d v → RepT K B H d v
  | .non, _, h => h
  | .bl _, _, h => h
  | .int _, _, h => h
  | .str _, _, h => h
  | .tup ds, v, h => by
    simp only [Rep] at h
    obtain ⟨a, xs, h1, h2, h3⟩ := h
    exact ⟨a, xs, h1, s _ _ h2, h3⟩
  | .lst ds, v, h => by
    simp only [Rep] at h
    obtain ⟨a, xs, h1, h2, h3⟩ := h
    exact ⟨a, xs, h1, s _ _ h2, h3⟩
  | .dk ks ds, v, h => by
    simp only [Rep] at h
    obtain ⟨a, xs, h1, h2, h3, h4⟩ := h
    exact ⟨a, xs, h1, s _ _ h2, h3, h4⟩
  | .dt ks ds, v, h => by
    simp only [Rep] at h
    obtain ⟨a, xs, h1, h2, h3, h4⟩ := h
    exact ⟨a, xs, h1, s _ _ h2, h3, h4⟩
  | .dl ks ds, v, h => by
    simp only [Rep] at h
    obtain ⟨a, o, xs, h1, h2, h3, h4⟩ := h
    exact ⟨a, o, xs, h1, s _ _ h2, h3, h4⟩
  | .ob C fs ds, v, h => by
    simp only [Rep] at h
    obtain ⟨a, dx, xs, h1, h2, h3, h4⟩ := h
    exact ⟨a, dx, xs, h1, s _ _ h2, h3, h4⟩
  | .xn _ _ _ _, _, h => h
  | .adr _, _, h => h
  | .ty _, _, h => h
  | .ptr _, _, h => h
  | .any _, _, h => h
  | .xp _ _ _ _, _, h => h
theorem RepO.top {a : Addr} {u : HO} : ∀ {o : O}, RepO K B o u → H a = some u → RepT K B H o.frozen (.ref a)
  | .lst _, ⟨xs, h1, h2⟩, e => by
    subst h1
    exact ⟨a, xs, rfl, e, h2⟩
  | .dk _ _, ⟨xs, h1, h3, h2⟩, e => by
    subst h1
    exact ⟨a, xs, rfl, e, h3, h2⟩
  | .dt _ _, ⟨xs, h1, h3, h2⟩, e => by
    subst h1
    exact ⟨a, xs, rfl, e, h3, h2⟩
  | .ob _ _ _, ⟨dx, xs, h1, h3, h2⟩, e => by
    subst h1
    exact ⟨a, dx, xs, rfl, e, h3, h2⟩
  | .tbl _ P _, ⟨h1, _⟩, _ => by
    show Rep K B (.any _) _
    simp only [Rep]
    exact ⟨a, P, rfl, h1⟩
theorem RepT.dp (s : Same B.h H) : ∀ {d : D} {v : V} {p : PyData}, d.py = some p → RepT K B H d v → Dp K H v p
  | .non, _, _, e, h => Rep.dp s e h
  | .bl b, _, _, e, h => Rep.dp s e h
  | .int i, _, _, e, h => Rep.dp s e h
  | .str z, _, _, e, h => Rep.dp s e h
  | .tup ds, _, _, e, h => by
    simp only [D.py] at e
    obtain ⟨a, xs, rfl, h2, h3⟩ := h
    cases q : D.pys ds with
    | none =>
      rw [q] at e
      cases e
    | some ps =>
      rw [q] at e
      cases e
      exact .tup (SqT.of h2) (Reps.dp s q h3)
  | .lst ds, _, _, e, h => by
    simp only [D.py] at e
    obtain ⟨a, xs, rfl, h2, h3⟩ := h
    cases q : D.pys ds with
    | none =>
      rw [q] at e
      cases e
    | some ps =>
      rw [q] at e
      cases e
      exact .lst (SqL.of h2) (Reps.dp s q h3)
  | .dk _ _, _, _, e, _ => by
    simp only [D.py] at e
    cases e
  | .dt _ _, _, _, e, _ => by
    simp only [D.py] at e
    cases e
  | .dl _ _, _, _, e, _ => by
    simp only [D.py] at e
    cases e
  | .ob _ _ _, _, _, e, _ => by
    simp only [D.py] at e
    cases e
  | .xn _ _ _ _, _, _, e, _ => by
    simp only [D.py] at e
    cases e
  | .adr _, _, _, e, _ => by
    simp only [D.py] at e
    cases e
  | .any _, _, _, e, _ => by
    simp only [D.py] at e
    cases e
  | .xp _ _ _ _, _, _, e, _ => by
    simp only [D.py] at e
    cases e
  | .ty _, _, _, e, _ => by
    simp only [D.py] at e
    cases e
end
theorem rept_int {K : PySem.W.Frag} {B : Fz} {H : Hp} {i : Int} {x : V} (h : RepT K B H (.int i) x) : x = .int i := rep_int (K := K) (B := B) h
theorem rept_str {K : PySem.W.Frag} {B : Fz} {H : Hp} {z : Str} {x : V} (h : RepT K B H (.str z) x) : x = .str z := rep_str (K := K) (B := B) h
theorem rept_bl {K : PySem.W.Frag} {B : Fz} {H : Hp} {b : Bool} {x : V} (h : RepT K B H (.bl b) x) : x = .bl b := rep_bl (K := K) (B := B) h
inductive Opd where
  | d (d : D)
  /-- what stands in the slot i -/
  | s (i : Nat)
/-- a cell is looked into -/
def look (ρ : Rho) : D → Option D
  | .ptr n => match ρ.g[n]? with
    | some y => some y.frozen
    | _ => none
  | x => some x
def Opd.dat (ρ : Rho) (o : Opd) : Option D := match o with
  | .d x => look ρ x
  | .s i => match ρ[i]? with
    | some (some (.val x)) => look ρ x
    | some (some (.own y)) => some y.frozen
    | _ => none
theorem look_top {K : PySem.W.Frag} {B : Fz} {H : Hp} {σ : L2.St} {ρ : Rho} (c : Cf K B H σ ρ) {x d : D} {v : V} (r : Rep K B x v) (e : look ρ x = some d) : RepT K B H d v := by
  unfold look at e
  split at e
  · rename_i n
    split at e
    · rename_i y q
      cases e
      obtain ⟨a, h, e1, e2, e3, e4⟩ := c.cl.at_ n y q
      simp only [Rep] at r
      obtain ⟨a', rfl, r⟩ := r
      rw [e1] at r
      cases r
      exact e4.top e3
    · cases e
  · cases e
    exact Rep.top c.bh r
theorem look_tup {ρ : Rho} {x : D} {ds : List D} (e : look ρ x = some (.tup ds)) : x = .tup ds := by
  unfold look at e
  split at e
  · split at e
    · rename_i y q
      cases y <;> simp only [O.frozen, Option.some.injEq, reduceCtorEq] at e
    · cases e
  · exact Option.some.inj e
def RK (K : PySem.W.Frag) : Rl Opd V := fun _ σ B _ _ o v => match o with
  | .d d => Rep K B d v
  | .s i => σ[i]? = some (some v)
instance (K : PySem.W.Frag) : RlM (RK K) := ⟨fun _ h => h⟩
abbrev tK (K : PySem.W.Frag) (E : WX) (f : M Opd) : TE := tR K E (RK K) f
/-- the tree of an operand, as things stand -/
def getO (o : Opd) : M D := fun ρ => match o.dat ρ with
  | some d => .ok d ρ
  | none => .no
def varK (i : Nat) : M Opd := fun ρ => match ρ[i]? with
  | some (some _) => .ok (.s i) ρ
  | _ => .no
def opdM (f : M D) : M Opd := f >>= fun d => M.ret (.d d)
section
variable {K : PySem.W.Frag} {E : WX} {σ : L2.St} {B B1 B' : Fz} {H H1 H' : Hp} {ρ ρ1 ρ' : Rho}
theorem RK.mono {H0 H0' : Hp} {o : Opd} {v : V} (st : Step K σ B H ρ σ B' H' ρ') (h : RK K H0 σ B H ρ o v) : RK K H0' σ B' H' ρ' o v := by
  cases o with
  | d d => exact Rep.mono st.bb h
  | s i => exact h
theorem RK.top {H0 : Hp} (c : Cf K B H σ ρ) {o : Opd} {v : V} {d : D} (h : RK K H0 σ B H ρ o v) (e : o.dat ρ = some d) : RepT K B H d v := by
  cases o with
  | d d' => exact look_top c h e
  | s i =>
    have h : σ[i]? = some (some v) := h
    unfold Opd.dat at e
    cases q : ρ[i]? with
    | none =>
      simp only [q] at e
      cases e
    | some s =>
      cases s with
      | none =>
        simp only [q] at e
        cases e
      | some s =>
        cases s with
        | val d' =>
          simp only [q] at e
          obtain ⟨w, e1, r⟩ := c.val q
          rw [h] at e1
          cases e1
          exact look_top c r e
        | own o =>
          simp only [q] at e
          cases e
          obtain ⟨p, u, e1, b1, k1, r1, oa1⟩ := c.own q
          rw [h] at e1
          cases e1
          exact r1.top k1
theorem At.getO {γ δ : Type} {R' : Rl γ δ} {Q : δ → Hp → Prop} {o : Opd} {g : D → M γ} (h : At K E R' σ B H ρ Q ((getO o >>= g) ρ)) : ∃ d, o.dat ρ = some d ∧ At K E R' σ B H ρ Q (g d ρ) := by
  cases e : o.dat ρ with
  | none =>
    have : Nc.getO o ρ = .no := by unfold Nc.getO; rw [e]
    rw [bnd_no this] at h
    exact h.elim
  | some d =>
    have : Nc.getO o ρ = .ok d ρ := by unfold Nc.getO; rw [e]
    rw [bnd_ok this] at h
    exact ⟨d, rfl, h⟩
end
section
variable {X : Cx} {E : WX} {a b : Expr} {pos : Pos} {fa fb : M Opd} {f : M D}
theorem pk_var (i : Nat) {x : Str} {pos : Pos} (h : PE X (.Name x pos) (tVar i)) : PE X (.Name x pos) (tK X.K E (varK i)) := by
  refine pe_weak h fun σ H Q ⟨B, ρ, c, a⟩ => ?_
  unfold varK at a
  cases e : ρ[i]? with
  | none =>
    rw [e] at a
    exact a.elim
  | some s =>
    cases s with
    | none =>
      rw [e] at a
      exact a.elim
    | some s =>
      rw [e] at a
      cases s with
      | val d =>
        obtain ⟨v, e1, r⟩ := c.val e
        exact ⟨v, e1, a.here c e1⟩
      | own o =>
        obtain ⟨p, u, e1, b1, k1, r1, oa1⟩ := c.own e
        exact ⟨.ref p, e1, a.here c e1⟩
theorem pk_of {e : Expr} (h : PE X e (tD X.K E f)) : PE X e (tK X.K E (opdM f)) := by
  refine pe_weak h fun σ H Q ⟨B, ρ, c, h⟩ => ⟨B, ρ, c, h.seq.imp ?_⟩
  rintro d ρ' x B' H1 - - - ⟨d, B1, ρ1, st1, rx, h1⟩
  exact h1.here st1.cf rx
/-- what an operator's reading asks, the tops of both read in the heap -/
def OpK (K : PySem.W.Frag) (r : R2) (op : D → D → Option D) : Prop := ∀ (B : Fz) (H : Hp) (σ : L2.St) (ρ : Rho) (d e z : D) (x y : V) (Q : VK), Cf K B H σ ρ → RepT K B H d x → RepT K B H e y → op d e = some z →
  (∀ v B' H', Step K σ B H ρ σ B' H' ρ → Rep K B' z v → Q v H') → r x y H Q
def k2 (op : D → D → Option D) (fa fb : M Opd) : M D := fa >>= fun o => fb >>= fun u => getO o >>= fun d => getO u >>= fun e => M.opt (op d e)
theorem two_partsK {r : R2} {op : D → D → Option D} (hr : OpK X.K r op) : ∀ σ H Q, tD X.K E (k2 op fa fb) σ H Q → tOp r (tK X.K E fa) (tK X.K E fb) σ H Q := by
  rintro σ H Q ⟨B, ρ, c, h⟩
  refine ⟨B, ρ, c, h.seq.imp ?_⟩
  rintro d ρ' x B' H1 - - - ⟨o, B1, ρ1, st1, rx, h1⟩
  refine ⟨B1, ρ1, st1.cf, h1.seq.imp ?_⟩
  rintro e ρ' y B' H2 - - - ⟨u, B2, ρ2, st2, ry, h2⟩
  obtain ⟨d, e1, h2⟩ := h2.getO
  obtain ⟨e, e2, h2⟩ := h2.getO
  obtain ⟨z, ez, k⟩ := h2.opt
  exact hr B2 H2 σ ρ2 d e z x y Q st2.cf ((RK.mono (H0' := H2) st2 rx).top st2.cf e1) (RK.top st2.cf ry e2) ez k
theorem pk_cmp {o : CmpOp} {r : R2} {op : D → D → Option D} (hr : OpK X.K r op) (ho : OpR X (compareOp o) r) (ha : PE X a (tK X.K E fa)) (hb : PE X b (tK X.K E fb)) (hm : behindInMarks o b = false) :
    PE X (.Compare a [o] [b] pos) (tD X.K E (k2 op fa fb)) := pe_weak (pe_cmpR ho ha hb hm) (two_partsK hr)
theorem pkt_cmp {o : CmpOp} {r : R2} {op : D → D → Option D} (hr : OpK X.K r op) (ho : OpR X (compareOp o) r) (ha : PE X a (tK X.K E fa)) (hb : PE X b (tK X.K E fb)) (hm : behindInMarks o b = false) :
    PT X (.Compare a [o] [b] pos) (tT X.K E (tst (k2 op fa fb))) := by
  refine pt_weak (pt_cmpR ho ha hb hm) fun σ H Q ⟨B, ρ, c, h⟩ => ?_
  refine two_partsK hr σ H _ ⟨B, ρ, c, h.seq.imp ?_⟩
  rintro d ρ' x B' H1 - - - ⟨d, B1, ρ1, st1, rx, h1⟩
  obtain ⟨z, ez, k⟩ := h1.opt
  cases d <;> simp only [asB, reduceCtorEq] at ez
  cases ez
  have rx' := rep_bl rx
  exact ⟨_, rx', k _ _ _ (Step.refl st1.cf) rfl⟩
end
section
variable {K : PySem.W.Frag}
theorem eqS_scalT {B : Fz} {H : Hp} {d e : D} {x y : V} {b : Bool} (h : eqS d e = some b) (rx : RepT K B H d x) (ry : RepT K B H e y) : scal x y = true ∧ decide (x = y) = b := by
  cases d <;> cases e <;> simp only [eqS, reduceCtorEq] at h <;> exact eqS_scal (by simpa only [eqS] using h) rx ry
theorem opk_eq : OpK K (fun x y H Q => rEqD K x y H Q ∨ rEq x y H Q) eqD := by
  intro B H σ ρ d e z x y Q c rx ry ez k
  unfold eqD eqB at ez
  split at ez
  · rename_i b hb
    cases ez
    obtain ⟨h1, h2⟩ := eqS_scalT hb rx ry
    exact .inr ⟨h1, by rw [h2]; exact k _ _ _ (Step.refl c) (by simp only [Rep])⟩
  · split at ez
    · rename_i p q hp hq
      split at ez
      · rename_i hs
        rw [Bool.and_eq_true] at hs
        cases ez
        exact .inl ⟨p, q, rx.dp c.bh hp, ry.dp c.bh hq, hs.1, hs.2, k _ _ _ (Step.refl c) (by simp only [Rep])⟩
      · cases ez
    · cases ez
theorem opk_ne : OpK K (fun x y H Q => rNeD K x y H Q ∨ rNe x y H Q) neD := by
  intro B H σ ρ d e z x y Q c rx ry ez k
  unfold neD eqB at ez
  split at ez
  · rename_i b hb
    cases ez
    obtain ⟨h1, h2⟩ := eqS_scalT hb rx ry
    exact .inr ⟨h1, by rw [h2]; exact k _ _ _ (Step.refl c) (by simp only [Rep])⟩
  · split at ez
    · rename_i p q hp hq
      split at ez
      · rename_i hs
        rw [Bool.and_eq_true] at hs
        cases ez
        exact .inl ⟨p, q, rx.dp c.bh hp, ry.dp c.bh hq, hs.1, hs.2, k _ _ _ (Step.refl c) (by simp only [Rep])⟩
      · cases ez
    · cases ez
def D.flat : D → Option V
  | .non => some .non
  | .bl b => some (.bl b)
  | .int i => some (.int i)
  | .str z => some (.str z)
  | _ => none
def D.flats : List D → Option (List V)
  | [] => some []
  | d :: ds => match d.flat, D.flats ds with
    | some x, some xs => some (x :: xs)
    | _, _ => none
theorem flat_rep {B : Fz} {d : D} {v w : V} (e : d.flat = some w) (h : Rep K B d v) : v = w ∧ flatV w = true := by
  cases d <;> simp only [D.flat, reduceCtorEq] at e <;> simp only [Rep] at h <;> cases e <;> subst h <;> exact ⟨rfl, rfl⟩
theorem flat_repT {B : Fz} {H : Hp} {d : D} {v w : V} (e : d.flat = some w) (h : RepT K B H d v) : v = w ∧ flatV w = true := by
  cases d <;> simp only [D.flat, reduceCtorEq] at e <;> exact flat_rep (by simpa only [D.flat] using e) h
theorem flats_reps {B : Fz} : ∀ {ds : List D} {vs ws : List V}, D.flats ds = some ws → Reps K B ds vs → vs = ws ∧ ws.all flatV = true
  | [], vs, ws, e, h => by
    simp only [D.flats, Reps] at e h
    cases e
    exact ⟨h, rfl⟩
  | d :: ds, vs, ws, e, h => by
    simp only [D.flats, Reps] at e h
    obtain ⟨x, xs, rfl, h2, h3⟩ := h
    split at e
    · rename_i y ys e1 e2
      cases e
      obtain ⟨rfl, f1⟩ := flat_rep e1 h2
      obtain ⟨rfl, f2⟩ := flats_reps e2 h3
      exact ⟨rfl, by rw [List.all_cons, f1, f2]; rfl⟩
    · cases e
def inS (d : D) : D → Option Bool
  | .str z => match d with
    | .str w => some (!(Builtin.Str.occurrences z w 0 z.length 1).isEmpty)
    | _ => none
  | .lst ds => match d.flat, D.flats ds with
    | some x, some xs => some (inV x xs)
    | _, _ => match d.py, D.pys ds with
      | some p, some ps => if SeqAt.shaped p && SeqAt.shaped (.list ps) then some (ps.any fun z => PyData.eqv z p) else none
      | _, _ => none
  | .tup ds => match d.flat, D.flats ds with
    | some x, some xs => some (inV x xs)
    | _, _ => none
  | _ => none
def inD (d e : D) : Option D := (inS d e).map .bl
def notInD (d e : D) : Option D := (inS d e).map fun b => .bl (!b)
theorem opk_in : OpK K (fun x y H Q => rIn K false x y H Q ∨ rInD K x y H Q ∨ (∃ i j, x = .str i ∧ y = .str j ∧ Q (.bl (!(Builtin.Str.occurrences j i 0 j.length 1).isEmpty)) H)) inD := by
  intro B H σ ρ d e z x y Q c rx ry ez k
  unfold inD at ez
  cases eb : inS d e with
  | none =>
    rw [eb] at ez
    cases ez
  | some b =>
    rw [eb] at ez
    cases ez
    have k' := k _ _ _ (Step.refl c) (show Rep K B (.bl b) (.bl b) by simp only [Rep])
    cases e with
    | str z =>
      cases d <;> simp only [inS, reduceCtorEq] at eb
      cases eb
      exact .inr (.inr ⟨_, _, rept_str rx, rept_str ry, k'⟩)
    | lst ds =>
      obtain ⟨p, xs, rfl, h1, h2⟩ := ry
      simp only [inS] at eb
      split at eb
      · rename_i w ws e1 e2
        cases eb
        obtain ⟨rfl, f1⟩ := flat_repT e1 rx
        obtain ⟨rfl, f2⟩ := flats_reps e2 h2
        exact .inl ⟨p, _, rfl, .inl (SqL.of h1), f1, f2, k'⟩
      · split at eb
        · rename_i q qs e1 e2
          split at eb
          · rename_i hs
            rw [Bool.and_eq_true] at hs
            cases eb
            exact .inr (.inl ⟨q, qs, rx.dp c.bh e1, .lst (SqL.of h1) (Reps.dp c.bh e2 h2), hs.1, hs.2, k'⟩)
          · cases eb
        · cases eb
    | tup ds =>
      obtain ⟨p, xs, rfl, h1, h2⟩ := ry
      simp only [inS] at eb
      split at eb
      · rename_i w ws e1 e2
        cases eb
        obtain ⟨rfl, f1⟩ := flat_repT e1 rx
        obtain ⟨rfl, f2⟩ := flats_reps e2 h2
        exact .inl ⟨p, _, rfl, .inr (SqT.of h1), f1, f2, k'⟩
      · cases eb
    | _ => simp only [inS, reduceCtorEq] at eb
theorem opk_notIn : OpK K (fun x y H Q => rIn K true x y H Q ∨ rNotInD K x y H Q ∨ (∃ i j, x = .str i ∧ y = .str j ∧ Q (.bl (!(!(Builtin.Str.occurrences j i 0 j.length 1).isEmpty))) H)) notInD := by
  intro B H σ ρ d e z x y Q c rx ry ez k
  unfold notInD at ez
  cases eb : inS d e with
  | none =>
    rw [eb] at ez
    cases ez
  | some b =>
    rw [eb] at ez
    cases ez
    have k' := k _ _ _ (Step.refl c) (show Rep K B (.bl !b) (.bl !b) by simp only [Rep])
    cases e with
    | str z =>
      cases d <;> simp only [inS, reduceCtorEq] at eb
      cases eb
      exact .inr (.inr ⟨_, _, rept_str rx, rept_str ry, k'⟩)
    | lst ds =>
      obtain ⟨p, xs, rfl, h1, h2⟩ := ry
      simp only [inS] at eb
      split at eb
      · rename_i w ws e1 e2
        cases eb
        obtain ⟨rfl, f1⟩ := flat_repT e1 rx
        obtain ⟨rfl, f2⟩ := flats_reps e2 h2
        exact .inl ⟨p, _, rfl, .inl (SqL.of h1), f1, f2, k'⟩
      · split at eb
        · rename_i q qs e1 e2
          split at eb
          · rename_i hs
            rw [Bool.and_eq_true] at hs
            cases eb
            exact .inr (.inl ⟨q, qs, rx.dp c.bh e1, .lst (SqL.of h1) (Reps.dp c.bh e2 h2), hs.1, hs.2, k'⟩)
          · cases eb
        · cases eb
    | tup ds =>
      obtain ⟨p, xs, rfl, h1, h2⟩ := ry
      simp only [inS] at eb
      split at eb
      · rename_i w ws e1 e2
        cases eb
        obtain ⟨rfl, f1⟩ := flat_repT e1 rx
        obtain ⟨rfl, f2⟩ := flats_reps e2 h2
        exact .inl ⟨p, _, rfl, .inr (SqT.of h1), f1, f2, k'⟩
      · cases eb
    | _ => simp only [inS, reduceCtorEq] at eb
end
section
variable {X : Cx} {E : WX} {a b : Expr} {pos : Pos} {fa fb : M Opd}
theorem pk_eq (hu : X.A.units + 64 < cLine) (ha : PE X a (tK X.K E fa)) (hb : PE X b (tK X.K E fb)) : PE X (.Compare a [.Eq] [b] pos) (tD X.K E (k2 eqD fa fb)) := pk_cmp opk_eq ((op_eqD hu).or op_eq) ha hb (nomark _)
theorem pkt_eq (hu : X.A.units + 64 < cLine) (ha : PE X a (tK X.K E fa)) (hb : PE X b (tK X.K E fb)) : PT X (.Compare a [.Eq] [b] pos) (tT X.K E (tst (k2 eqD fa fb))) := pkt_cmp opk_eq ((op_eqD hu).or op_eq) ha hb (nomark _)
theorem pkt_ne (hu : X.A.units + 64 < cLine) (ha : PE X a (tK X.K E fa)) (hb : PE X b (tK X.K E fb)) : PT X (.Compare a [.NotEq] [b] pos) (tT X.K E (tst (k2 neD fa fb))) := pkt_cmp opk_ne ((op_neD hu).or op_ne) ha hb (nomark _)
theorem pk_in (hu : X.A.units + 65 < cLine) (ha : PE X a (tK X.K E fa)) (hb : PE X b (tK X.K E fb)) (hm : behindInMarks .In b = false := by rfl) : PE X (.Compare a [.In] [b] pos) (tD X.K E (k2 inD fa fb)) := pk_cmp opk_in (op_in_seq.or ((op_inD hu).or op_in_str)) ha hb hm
theorem pkt_in (hu : X.A.units + 65 < cLine) (ha : PE X a (tK X.K E fa)) (hb : PE X b (tK X.K E fb)) (hm : behindInMarks .In b = false := by rfl) : PT X (.Compare a [.In] [b] pos) (tT X.K E (tst (k2 inD fa fb))) := pkt_cmp opk_in (op_in_seq.or ((op_inD hu).or op_in_str)) ha hb hm
theorem pkt_notIn (hu : X.A.units + 65 < cLine) (ha : PE X a (tK X.K E fa)) (hb : PE X b (tK X.K E fb)) (hm : behindInMarks .NotIn b = false := by rfl) : PT X (.Compare a [.NotIn] [b] pos) (tT X.K E (tst (k2 notInD fa fb))) := pkt_cmp opk_notIn (op_notIn_seq.or ((op_notInD hu).or op_notIn_str)) ha hb hm
end
def ixD : D → D → Option D
  | .lst ds, .int i => atI ds i
  | .tup ds, .int i => atI ds i
  | .str z, .int i => if z.length ≤ sizeLine then (atI z.cps.toList i).map fun c => .str ⟨#[c]⟩ else none
  | _, _ => none
theorem atI_rep {K : PySem.W.Frag} {B : Fz} {ds : List D} {vs : List V} {i : Int} {d : D} (h : Reps K B ds vs) (e : atI ds i = some d) : ∃ v, atI vs i = some v ∧ Rep K B d v := by
  unfold atI at e ⊢
  rw [← h.length]
  cases q : ixN ds.length i with
  | none =>
    rw [q] at e
    cases e
  | some j =>
    rw [q] at e
    obtain ⟨v, e1, r⟩ := h.get e
    exact ⟨v, e1, r⟩
section
variable {X : Cx} {E : WX} {a b : Expr} {pos : Pos} {fa fb : M Opd}
theorem opk_ix {K : PySem.W.Frag} : OpK K (rIx K) ixD := by
  intro B H σ ρ d e z x y Q c rx ry ez k
  cases d <;> cases e <;> simp only [ixD, reduceCtorEq] at ez
  · have ry' := rept_int ry
    have rx' := rept_str rx
    subst rx' ry'
    split at ez
    · rename_i hz
      obtain ⟨cc, e1, e2⟩ := Option.map_eq_some_iff.mp ez
      subst e2
      exact .inr (.inr ⟨_, _, cc, rfl, rfl, hz, e1, k _ _ _ (Step.refl c) (by simp only [Rep])⟩)
    · cases ez
  · have ry' := rept_int ry
    subst ry'
    obtain ⟨p, xs, rfl, h1, h2⟩ := rx
    obtain ⟨v, e1, r⟩ := atI_rep h2 ez
    exact .inr (.inl ⟨p, xs, _, v, rfl, rfl, SqT.of h1, e1, k _ _ _ (Step.refl c) r⟩)
  · have ry' := rept_int ry
    subst ry'
    obtain ⟨p, xs, rfl, h1, h2⟩ := rx
    obtain ⟨v, e1, r⟩ := atI_rep h2 ez
    exact .inl ⟨p, xs, _, v, rfl, rfl, SqL.of h1, e1, k _ _ _ (Step.refl c) r⟩
theorem pk_ix (ha : PE X a (tK X.K E fa)) (hb : PE X b (tK X.K E fb)) (hs : PlainIx b) : PE X (.Subscript a b pos) (tD X.K E (k2 ixD fa fb)) := pe_weak (pe_ix ix_seq ha hb hs) (two_partsK opk_ix)
end
abbrev tO (K : PySem.W.Frag) (E : WX) (f : M (Option Int)) : TO := tR K E (RE (Option Int)) f
section
variable {X : Cx} {E : WX} {a : Expr} {pos p2 : Pos} {fa : M Opd} {f : M D} {fl fh : M (Option Int)} {lo hi : Option Expr}
def asI : D → Option Int
  | .int i => some i
  | _ => none
def partM (f : M D) : M (Option Int) := f >>= fun d => M.opt (asI d) >>= fun i => M.ret (some i)
theorem po_noneD : PO X none (tO X.K E (M.ret none)) := by
  have h := po_none (X := X)
  exact ⟨fun pins s σ H Q I q => h.run pins s σ H Q I (by obtain ⟨B, ρ, c, a⟩ := q; exact a.here c rfl)⟩
theorem po_someD {e : Expr} (he : PE X e (tD X.K E f)) : PO X (some e) (tO X.K E (partM f)) := by
  have h := po_some he
  refine ⟨fun pins s σ H Q I q => h.run pins s σ H Q I ?_⟩
  obtain ⟨B, ρ, c, h⟩ := q
  refine ⟨B, ρ, c, h.seq.imp ?_⟩
  rintro d ρ' x B' H1 - - - ⟨d, B1, ρ1, st1, rx, h1⟩
  obtain ⟨i, ei, h1⟩ := h1.optSeq
  cases d <;> simp only [asI, reduceCtorEq] at ei
  cases ei
  exact ⟨_, rep_int rx, h1.here st1.cf rfl⟩
def cutL {α : Type} (xs : List α) (lo hi : Option Int) : List α := (xs.drop (HT.sIx xs.length 0 lo)).take (HT.sIx xs.length xs.length hi - HT.sIx xs.length 0 lo)
theorem cutL_V (xs : List V) (lo hi : Option Int) : cutV xs lo hi = cutL xs lo hi := rfl
theorem cut_reps {K : PySem.W.Frag} {B : Fz} {ds : List D} {vs : List V} (h : Reps K B ds vs) (lo hi : Option Int) : Reps K B (cutL ds lo hi) (cutV vs lo hi) := by
  rw [cutL_V]
  unfold cutL
  rw [h.length]
  exact (h.drop _).take _
def slD (lo hi : Option Int) : D → Option D
  | .lst ds => some (.lst (cutL ds lo hi))
  | .tup ds => some (.tup (cutL ds lo hi))
  | .str z => if z.length ≤ sizeLine then some (.str (cutS z lo hi)) else none
  | _ => none
def slM (fa : M Opd) (fl fh : M (Option Int)) : M D := fa >>= fun o => fl >>= fun l => fh >>= fun u => getO o >>= fun d => M.opt (slD l u d)
theorem pk_slice (ha : PE X a (tK X.K E fa)) (hl : PO X lo (tO X.K E fl)) (hh : PO X hi (tO X.K E fh)) : PE X (.Subscript a (.Slice lo hi none p2) pos) (tD X.K E (slM fa fl fh)) := by
  refine pe_weak (pe_slice (sl_list.or (sl_tupA.or sl_str)) ha hl hh) ?_
  rintro σ H Q ⟨B, ρ, c, h⟩
  refine ⟨B, ρ, c, h.seq.imp ?_⟩
  rintro d ρ' x B' H1 - - - ⟨o, B1, ρ1, st1, rx, h1⟩
  refine ⟨B1, ρ1, st1.cf, h1.seq.imp ?_⟩
  rintro e ρ' y B' H2 - - - ⟨l, B2, ρ2, st2, ry, h2⟩
  have ry : l = y := ry
  subst ry
  refine ⟨B2, ρ2, st2.cf, h2.seq.imp ?_⟩
  rintro e ρ' y B' H3 - - - ⟨u, B3, ρ3, st3, ry, h3⟩
  have ry : u = y := ry
  subst ry
  obtain ⟨d, e1, h3⟩ := h3.getO
  obtain ⟨z, ez, k⟩ := h3.opt
  have rx3 : RK X.K H3 σ B3 H3 ρ3 o x := RK.mono st3 (RK.mono (H0' := H3) st2 rx)
  have top := rx3.top st3.cf e1
  cases d <;> simp only [slD, reduceCtorEq] at ez
  · have e := rept_str top
    subst e
    split at ez
    · rename_i hz
      cases ez
      exact .inr (.inr ⟨_, rfl, hz, k _ _ _ (Step.refl st3.cf) (by simp only [RD, Rep])⟩)
    · cases ez
  · obtain ⟨p, xs, rfl, q1, q2⟩ := top
    cases ez
    refine .inr (.inl ⟨p, xs, rfl, SqT.of q1, fun hw => ?_, fun _ l hl => k _ _ _ (st3.cf.laid hl _) ?_⟩)
    · have hwd : cutV xs l u = xs := by
        unfold cutV
        rw [hw.1, hw.2, List.drop_zero, Nat.sub_zero, List.take_length]
      rename_i ds
      have rr := cut_reps q2 l u
      rw [hwd] at rr
      cases o with
      | d d0 =>
        have e2 := look_tup e1
        subst e2
        have r0 : Rep X.K B3 (.tup ds) (.ref p) := rx3
        simp only [Rep] at r0
        obtain ⟨p', xs', e', s', r'⟩ := r0
        cases e'
        have el : cutL ds l u = ds := by
          unfold cutL
          rw [q2.length, hw.1, hw.2, List.drop_zero, Nat.sub_zero, ← q2.length, List.take_length]
        refine k _ _ _ (Step.refl st3.cf) ?_
        rw [el]
        show Rep X.K B3 (.tup ds) (.ref p)
        simp only [Rep]
        exact ⟨p, xs', rfl, s', r'⟩
      | s i =>
        have el : cutL ds l u = ds := by
          unfold cutL
          rw [q2.length, hw.1, hw.2, List.drop_zero, Nat.sub_zero, ← q2.length, List.take_length]
        have hi : σ[i]? = some (some (.ref p)) := rx3
        unfold Opd.dat at e1
        cases q : ρ3[i]? with
        | none =>
          simp only [q] at e1
          cases e1
        | some s =>
          cases s with
          | none =>
            simp only [q] at e1
            cases e1
          | some s =>
            cases s with
            | val d' =>
              simp only [q] at e1
              have e2 := look_tup e1
              subst e2
              obtain ⟨w, g1, r⟩ := st3.cf.val q
              rw [hi] at g1
              cases g1
              refine k _ _ _ (Step.refl st3.cf) ?_
              rw [el]
              exact r
            | own o =>
              simp only [q] at e1
              cases o <;> simp only [O.frozen, reduceCtorEq, Option.some.injEq] at e1
    · show Rep X.K _ (.tup _) (.ref l)
      simp only [Rep]
      exact ⟨l, _, rfl, upd_same, (cut_reps q2 _ _).mono (st3.cf.laid hl _).bb⟩
  · obtain ⟨p, xs, rfl, q1, q2⟩ := top
    cases ez
    refine .inl ⟨p, xs, rfl, SqL.of q1, fun l hl => k _ _ _ (st3.cf.laid hl _) ?_⟩
    show Rep X.K _ (.lst _) (.ref l)
    simp only [Rep]
    exact ⟨l, _, rfl, upd_same, (cut_reps q2 _ _).mono (st3.cf.laid hl _).bb⟩
end
end Nc
namespace Nc
open PySem PySem.Spec PyProof.Rows L2
def RN (K : PySem.W.Frag) : Rl O V := fun H0 σ B H ρ o v => ∃ p u, v = .ref p ∧ H0 p = none ∧ B p = none ∧ H p = some u ∧ RepO K B o u ∧ ¬ OwnA σ B ρ p
instance (K : PySem.W.Frag) : RlM (RN K) := ⟨fun {H H1 σ B' H' ρ' a b} k h => by
  obtain ⟨p, u, h1, h2, h3⟩ := h
  exact ⟨p, u, h1, Classical.byContradiction fun y => k p y h2, h3⟩⟩
abbrev tN (K : PySem.W.Frag) (E : WX) (f : M O) : TE := tR K E (RN K) f
section
variable {K : PySem.W.Frag} {E : WX} {σ σ' : L2.St} {B B1 : Fz} {H H1 : Hp} {ρ ρ1 : Rho}
theorem Step.wasNone (st : Step K σ B H ρ σ' B1 H1 ρ1) {p : Addr} (h : H1 p = .none) : H p = .none := Classical.byContradiction fun y => st.there p y h
/-- a part first, the rest seen from the start -/
theorem At.seqS {α β γ δ : Type} {R : Rl α β} {R' : Rl γ δ} {f : M α} {g : α → M γ} {Q : δ → Hp → Prop} (h : At K E R' σ B H ρ Q ((f >>= g) ρ)) :
    At K E R σ B H ρ (fun x H1 => ∃ a B1 ρ1, Step K σ B H ρ σ B1 H1 ρ1 ∧ R H σ B1 H1 ρ1 a x ∧ At K E R' σ B H ρ Q (g a ρ1)) (f ρ) := by
  cases e : f ρ with
  | no =>
    rw [bnd_no e] at h
    exact h
  | ex x ρ' =>
    rw [bnd_ex e] at h
    exact h
  | ok a ρ' =>
    rw [bnd_ok e] at h
    exact fun x B1 H1 st r => ⟨a, B1, ρ', st, r, h⟩
/-- what was new is frozen -/
theorem Step.seal (st : Step K σ B H ρ σ' B1 H1 ρ1) {p : Addr} {u : HO} (hp : H p = .none) (hB : B1 p = .none) (hH : H1 p = some u) (no : ¬ OwnA σ' B1 ρ1 p) : Step K σ B H ρ σ' (Fz.upd B1 p u) H1 ρ1 := by
  have c := st.cf
  have sB : FSame B1 (Fz.upd B1 p u) := FSame.upd hB
  refine ⟨⟨upd_frozen c.bh hH, c.len, fun j s q => ?_, fun i j q => by rw [OwnAt.up, OwnAt.up]; exact c.sep i j q, c.cl.upd hB fun n o h1 z => no ⟨.c n, ⟨o, h1⟩, z⟩⟩, st.bb.trans sB, st.keep, st.there, fun b q n => ?_, fun b z => st.own b (OwnA.up.mp z)⟩
  · have z := c.at_ j s q
    cases s with
    | none => trivial
    | some s =>
      cases s with
      | val d =>
        obtain ⟨x, h1, h2⟩ := z
        exact ⟨x, h1, h2.mono sB⟩
      | own o' =>
        obtain ⟨p', u', e1, b1, k1, r1, oa1⟩ := c.own q
        have np : p' ≠ p := fun y => by
          subst y
          exact no ⟨_, oa1⟩
        exact ⟨p', u', by rw [e1]; rfl, by rw [Fz.upd_ne np]; exact b1, k1, r1.mono sB⟩
  · by_cases hb : b = p
    · subst hb
      exact .inl hp
    · rw [Fz.upd_ne hb] at q
      exact st.new b q n
theorem Cf.unfrozen (c : Cf K B H σ ρ) {p : Addr} (h : H p = none) : B p = none := by
  cases e : B p with
  | none => rfl
  | some w =>
    have := c.bh p w e
    rw [h] at this
    cases this
theorem own_not_new (c : Cf K B H σ ρ) {p : Addr} (h : H p = none) : ¬ OwnA σ B ρ p := fun z => (z.not_frozen c).2 h
end
def frzM (f : M O) : M D := f >>= fun o => M.ret o.frozen
section
variable {X : Cx} {E : WX} {pos : Pos} {es : List Expr} {fs : M (List D)} {f : M O}
theorem pd_new {e : Expr} (h : PE X e (tN X.K E f)) : PE X e (tD X.K E (frzM f)) := by
  refine pe_weak h fun σ H Q ⟨B, ρ, c, h⟩ => ⟨B, ρ, c, h.seqS.imp ?_⟩
  rintro d ρ' x B' H1 - - - ⟨o, B1, ρ1, st1, ⟨p, u, rfl, n0, nB, hH, r, no⟩, h1⟩
  have s2 := st1.seal n0 nB hH no
  refine h1 _ _ _ s2 ?_
  exact (r.mono (FSame.upd nB)).freeze Fz.upd_same
theorem pl_nil : PA X [] (tL X.K E (M.ret [])) := pa_weak pa_nil fun σ H Q ⟨B, ρ, c, a⟩ => a.here c Reps.nil
def consM (f : M D) (fs : M (List D)) : M (List D) := f >>= fun d => fs >>= fun ds => M.ret (d :: ds)
theorem pl_cons {e : Expr} {f : M D} (h : PE X e (tD X.K E f)) (t : PA X es (tL X.K E fs)) (hs : starEach (e :: es) X.env = (false, eval e X.env) :: starEach es X.env := by rfl) : PA X (e :: es) (tL X.K E (consM f fs)) := by
  refine pa_weak (pa_cons h t hs) fun σ H Q ⟨B, ρ, c, h⟩ => ⟨B, ρ, c, h.seq.imp ?_⟩
  rintro d ρ' x B' H1 - - - ⟨d, B1, ρ1, st1, rx, h1⟩
  refine ⟨B1, ρ1, st1.cf, h1.seq.imp ?_⟩
  rintro e ρ' y B' H2 - - - ⟨ds, B2, ρ2, st2, ry, h2⟩
  exact h2.here st2.cf (Reps.cons (Rep.mono st2.bb rx) ry)
def sizedL (ds : List D) : Option O := if ds.length ≤ sizeLine then some (.lst ds) else none
def lstM (fs : M (List D)) : M O := fs >>= fun ds => M.opt (sizedL ds)
theorem sizedL_some {ds : List D} {o : O} (h : sizedL ds = some o) : ds.length ≤ sizeLine ∧ o = .lst ds := by
  unfold sizedL at h
  split at h
  · rename_i hz
    cases h
    exact ⟨hz, rfl⟩
  · cases h
/-- a new list at p -/
theorem new_lst {K : PySem.W.Frag} {σ : L2.St} {B : Fz} {H H0 : Hp} {ρ : Rho} (c : Cf K B H σ ρ) (up : ∀ p, H0 p ≠ none → H p ≠ none) {p : Addr} (hp : H p = none) {ds : List D} {xs : List V} (r : Reps K B ds xs) : RN K H0 σ B (upd H p (.lst xs)) ρ (.lst ds) (.ref p) :=
  ⟨p, .lst xs, rfl, Classical.byContradiction fun y => up p y hp, c.unfrozen hp, upd_same, ⟨xs, rfl, r⟩, own_not_new c hp⟩
theorem pn_lst (t : PA X es (tL X.K E fs)) : PE X (.List es pos) (tN X.K E (lstM fs)) := by
  refine pe_weak (pe_lst t) fun σ H Q ⟨B, ρ, c, h⟩ => ⟨B, ρ, c, h.seq.imp ?_⟩
  rintro d ρ' xs B' H1 - - - ⟨ds, B1, ρ1, st1, rx, h1⟩
  obtain ⟨o, eo, k⟩ := h1.opt
  obtain ⟨hz, rfl⟩ := sizedL_some eo
  have rx : Reps X.K B1 ds xs := rx
  exact ⟨by rw [← rx.length]; exact hz, fun p hp => k _ _ _ (st1.cf.free hp _) (new_lst st1.cf (fun _ z => z) hp rx)⟩
def sizedT (ds : List D) : Option D := if ds.length ≤ sizeLine then some (.tup ds) else none
def tupM (fs : M (List D)) : M D := fs >>= fun ds => M.opt (sizedT ds)
theorem pd_tup {k} (t : PA X es (tL X.K E fs)) : PE X (.Tuple es k pos) (tD X.K E (tupM fs)) := by
  refine pe_weak (pe_tup t) fun σ H Q ⟨B, ρ, c, h⟩ => ⟨B, ρ, c, h.seq.imp ?_⟩
  rintro d ρ' xs B' H1 - - - ⟨ds, B1, ρ1, st1, rx, h1⟩
  obtain ⟨o, eo, k⟩ := h1.opt
  have rx : Reps X.K B1 ds xs := rx
  unfold sizedT at eo
  split at eo
  · rename_i hz
    cases eo
    refine ⟨by rw [← rx.length]; exact hz, fun p hp => k _ _ _ (st1.cf.laid hp _) ?_⟩
    show Rep X.K _ (.tup ds) (.ref p)
    simp only [Rep]
    exact ⟨p, xs, rfl, upd_same, rx.mono (st1.cf.laid hp (.tup xs)).bb⟩
  · cases eo
end
def Call1 (K : PySem.W.Frag) (r : List V → Hp → VK → Prop) (op : D → Option D) : Prop := ∀ (B : Fz) (H : Hp) (σ : L2.St) (ρ : Rho) (d z : D) (x : V) (Q : VK), Cf K B H σ ρ → RepT K B H d x → op d = some z →
  (∀ v B' H', Step K σ B H ρ σ B' H' ρ → Rep K B' z v → Q v H') → r [x] H Q
def Call1N (K : PySem.W.Frag) (r : List V → Hp → VK → Prop) (op : D → Option O) : Prop := ∀ (B : Fz) (H : Hp) (σ : L2.St) (ρ : Rho) (d : D) (z : O) (x : V) (Q : VK), Cf K B H σ ρ → RepT K B H d x → op d = some z →
  (∀ v B' H', Step K σ B H ρ σ B' H' ρ → RN K H σ B' H' ρ z v → Q v H') → r [x] H Q
def k1 {α : Type} (op : D → Option α) (f : M Opd) : M α := f >>= fun o => getO o >>= fun d => M.opt (op d)
section
variable {X : Cx} {E : WX} {pos p : Pos} {a : Expr} {fa : M Opd} {r : List V → Hp → VK → Prop} {x : Str} {id : String}
theorem one_part {op : D → Option D} (hr : Call1 X.K r op) : ∀ σ H Q, tD X.K E (k1 op fa) σ H Q → tCB r (tCons (tK X.K E fa) tNil) σ H Q := by
  rintro σ H Q ⟨B, ρ, c, h⟩
  refine ⟨B, ρ, c, h.seq.imp ?_⟩
  rintro d ρ' x B' H1 - - - ⟨o, B1, ρ1, st1, rx, h1⟩
  obtain ⟨d, e1, h1⟩ := h1.getO
  obtain ⟨z, ez, k⟩ := h1.opt
  exact hr B1 H1 σ ρ1 d z x Q st1.cf (RK.top st1.cf rx e1) ez k
theorem one_partN {op : D → Option O} (hr : Call1N X.K r op) : ∀ σ H Q, tN X.K E (k1 op fa) σ H Q → tCB r (tCons (tK X.K E fa) tNil) σ H Q := by
  rintro σ H Q ⟨B, ρ, c, h⟩
  refine ⟨B, ρ, c, h.seq.imp ?_⟩
  rintro d ρ' x B' H1 - - - ⟨o, B1, ρ1, st1, rx, h1⟩
  obtain ⟨d, e1, h1⟩ := h1.getO
  obtain ⟨z, ez, k⟩ := h1.opt
  exact hr B1 H1 σ ρ1 d z x Q st1.cf (RK.top st1.cf rx e1) ez k
theorem pd_b1 {op : D → Option D} (hr : Call1 X.K r op) (hc : CallR X (.builtin id) r) (hv : bootBuiltins x = some (.builtin id)) (hg : Gl X x) (hm : X.mg x = none) (ha : PE X a (tK X.K E fa)) (hn : x ≠ "__name__" := by decide) (hdb : (x == ("__debug__" : Str)) = false := by decide) (hs : starEach [a] X.env = (false, eval a X.env) :: starEach [] X.env := by rfl) (hp : (backTo pos (starEach [] X.env)).any (·.1) = false := by rfl) :
    PE X (.Call (.Name x p) [a] [] pos) (tD X.K E (k1 op fa)) := pe_weak (pe_callB hc hg hm hv (pa_cons ha pa_nil hs) hn hdb hs hp) (one_part hr)
theorem pd_t1 {op : D → Option D} (hr : Call1 X.K r op) (hc : CallR X (.type id) r) (hv : bootBuiltins x = some (.type id)) (hg : Gl X x) (hm : X.mg x = none) (ha : PE X a (tK X.K E fa)) (hn : x ≠ "__name__" := by decide) (hdb : (x == ("__debug__" : Str)) = false := by decide) (hs : starEach [a] X.env = (false, eval a X.env) :: starEach [] X.env := by rfl) (hp : (backTo pos (starEach [] X.env)).any (·.1) = false := by rfl) :
    PE X (.Call (.Name x p) [a] [] pos) (tD X.K E (k1 op fa)) := pe_weak (pe_callTy hc hg hm hv (pa_cons ha pa_nil hs) hn hdb hs hp) (one_part hr)
theorem pn_b1 {op : D → Option O} (hr : Call1N X.K r op) (hc : CallR X (.builtin id) r) (hv : bootBuiltins x = some (.builtin id)) (hg : Gl X x) (hm : X.mg x = none) (ha : PE X a (tK X.K E fa)) (hn : x ≠ "__name__" := by decide) (hdb : (x == ("__debug__" : Str)) = false := by decide) (hs : starEach [a] X.env = (false, eval a X.env) :: starEach [] X.env := by rfl) (hp : (backTo pos (starEach [] X.env)).any (·.1) = false := by rfl) :
    PE X (.Call (.Name x p) [a] [] pos) (tN X.K E (k1 op fa)) := pe_weak (pe_callB hc hg hm hv (pa_cons ha pa_nil hs) hn hdb hs hp) (one_partN hr)
theorem pn_t1 {op : D → Option O} (hr : Call1N X.K r op) (hc : CallR X (.type id) r) (hv : bootBuiltins x = some (.type id)) (hg : Gl X x) (hm : X.mg x = none) (ha : PE X a (tK X.K E fa)) (hn : x ≠ "__name__" := by decide) (hdb : (x == ("__debug__" : Str)) = false := by decide) (hs : starEach [a] X.env = (false, eval a X.env) :: starEach [] X.env := by rfl) (hp : (backTo pos (starEach [] X.env)).any (·.1) = false := by rfl) :
    PE X (.Call (.Name x p) [a] [] pos) (tN X.K E (k1 op fa)) := pe_weak (pe_callTy hc hg hm hv (pa_cons ha pa_nil hs) hn hdb hs hp) (one_partN hr)
end
section
variable {K : PySem.W.Frag}
def lenD : D → Option D
  | .lst ds => some (.int ds.length)
  | .tup ds => some (.int ds.length)
  | .str z => if z.length ≤ sizeLine then some (.int z.length) else none
  | _ => none
theorem c1_len : Call1 K (fun xs H Q => (∃ p ys, xs = [.ref p] ∧ (SqL K H p ys ∨ SqT K H p ys) ∧ Q (.int ys.length) H) ∨ ∃ z, xs = [.str z] ∧ z.length ≤ sizeLine ∧ Q (.int z.length) H) lenD := by
  intro B H σ ρ d z x Q c rx ez k
  cases d <;> simp only [lenD, reduceCtorEq] at ez
  · have e := rept_str rx
    subst e
    split at ez
    · rename_i hz
      cases ez
      exact .inr ⟨_, rfl, hz, k _ _ _ (Step.refl c) (by simp only [Rep])⟩
    · cases ez
  · obtain ⟨p, xs, rfl, h1, h2⟩ := rx
    cases ez
    exact .inl ⟨p, xs, rfl, .inr (SqT.of h1), k _ _ _ (Step.refl c) (by rw [h2.length]; simp only [Rep])⟩
  · obtain ⟨p, xs, rfl, h1, h2⟩ := rx
    cases ez
    exact .inl ⟨p, xs, rfl, .inl (SqL.of h1), k _ _ _ (Step.refl c) (by rw [h2.length]; simp only [Rep])⟩
def intD : D → Option D
  | .int i => some (.int i)
  | .bl b => some (.int (if b then 1 else 0))
  | _ => none
theorem c1_int : Call1 K (fun xs H Q => (∃ i, xs = [.int i] ∧ Q (.int i) H) ∨ ∃ k, xs = [.bl k] ∧ Q (.int (if k then 1 else 0)) H) intD := by
  intro B H σ ρ d z x Q c rx ez k
  cases d <;> simp only [intD, reduceCtorEq] at ez
  · have e := rept_bl rx
    subst e
    cases ez
    exact .inr ⟨_, rfl, k _ _ _ (Step.refl c) (by simp only [Rep])⟩
  · have e := rept_int rx
    subst e
    cases ez
    exact .inl ⟨_, rfl, k _ _ _ (Step.refl c) (by simp only [Rep])⟩
def listO : D → Option O
  | .lst ds => some (.lst ds)
  | .tup ds => some (.lst ds)
  | _ => none
def tupleD : D → Option D
  | .lst ds => some (.tup ds)
  | _ => none
theorem c1_tuple : Call1 K (fun xs H Q => ∃ p ys, xs = [.ref p] ∧ ((SqL K H p ys ∧ ∀ l, H l = none → Q (.ref l) (upd H l (.tup ys))) ∨ (SqT K H p ys ∧ Q (.ref p) H))) tupleD := by
  intro B H σ ρ d z x Q c rx ez k
  cases d <;> simp only [tupleD, reduceCtorEq] at ez
  · obtain ⟨p, xs, rfl, h1, h2⟩ := rx
    cases ez
    refine ⟨p, xs, rfl, .inl ⟨SqL.of h1, fun l hl => k _ _ _ (c.laid hl _) ?_⟩⟩
    simp only [Rep]
    exact ⟨l, xs, rfl, upd_same, h2.mono (c.laid hl (.tup xs)).bb⟩
def D.ints : List D → Option (List Int)
  | [] => some []
  | .int i :: ds => (D.ints ds).map (i :: ·)
  | _ => none
theorem ints_map : ∀ {ds : List D} {ns : List Int}, D.ints ds = some ns → ds = ns.map D.int
  | [], ns, h => by
    simp only [D.ints] at h
    cases h
    rfl
  | d :: ds, ns, h => by
    cases d <;> simp only [D.ints, reduceCtorEq] at h
    obtain ⟨ms, e1, e2⟩ := Option.map_eq_some_iff.mp h
    subst e2
    rw [ints_map e1]
    rfl
theorem ints_of_map : ∀ ns : List Int, D.ints (ns.map D.int) = some ns
  | [] => rfl
  | n :: ns => by
    simp only [List.map, D.ints, ints_of_map ns, Option.map_some]
def sumD : D → Option D
  | .lst ds => (D.ints ds).map fun ns => .int ns.sum
  | _ => none
theorem c1_sum : Call1 K (rSum K) sumD := by
  intro B H σ ρ d z x Q c rx ez k
  cases d <;> simp only [sumD, reduceCtorEq] at ez
  · obtain ⟨p, xs, rfl, h1, h2⟩ := rx
    obtain ⟨ns, e1, e2⟩ := Option.map_eq_some_iff.mp ez
    subst e2
    have e := ints_map e1
    subst e
    have e := h2.ints
    subst e
    exact ⟨p, ns, rfl, SqL.of h1, k _ _ _ (Step.refl c) (by simp only [Rep])⟩
def D.bls : List D → Option (List Bool)
  | [] => some []
  | .bl i :: ds => (D.bls ds).map (i :: ·)
  | _ => none
theorem bls_reps {B : Fz} : ∀ {ds : List D} {bs : List Bool} {vs : List V}, D.bls ds = some bs → Reps K B ds vs → vs = bs.map V.bl
  | [], bs, vs, h, r => by
    simp only [D.bls, Reps] at h r
    cases h
    subst r
    rfl
  | d :: ds, bs, vs, h, r => by
    cases d <;> simp only [D.bls, reduceCtorEq] at h
    obtain ⟨ms, e1, e2⟩ := Option.map_eq_some_iff.mp h
    subst e2
    simp only [Reps] at r
    obtain ⟨x, xs, rfl, r1, r2⟩ := r
    rw [rep_bl r1, bls_reps e1 r2]
    rfl
def allD : D → Option D
  | .lst ds => (D.bls ds).map fun bs => .bl (bs.all id)
  | _ => none
theorem c1_all : Call1 K (rAll K) allD := by
  intro B H σ ρ d z x Q c rx ez k
  cases d <;> simp only [allD, reduceCtorEq] at ez
  · obtain ⟨p, xs, rfl, h1, h2⟩ := rx
    obtain ⟨bs, e1, e2⟩ := Option.map_eq_some_iff.mp ez
    subst e2
    have e := bls_reps e1 h2
    subst e
    exact ⟨p, bs, rfl, SqL.of h1, k _ _ _ (Step.refl c) (by simp only [Rep])⟩
end
inductive Out where
  | nx | rt (d : D) | bk | ct
  /-- the own object of a slot is returned -/
  | rn (i : Nat)
section
variable {K : PySem.W.Frag} {E : WX} {σ σ1 : L2.St} {B B1 : Fz} {H H1 : Hp} {ρ ρ1 : Rho} {Dn : Ends}
def AtS (K : PySem.W.Frag) (E : WX) (σ : L2.St) (B : Fz) (H : Hp) (ρ : Rho) (Dn : Ends) : Rs Out → Prop
  | .no => False
  | .ok .nx ρ' => ∀ σ' B' H', Step K σ B H ρ σ' B' H' ρ' → Dn.nx σ' H'
  | .ok .bk ρ' => ∀ σ' B' H', Step K σ B H ρ σ' B' H' ρ' → Dn.bk σ' H'
  | .ok .ct ρ' => ∀ σ' B' H', Step K σ B H ρ σ' B' H' ρ' → Dn.ct σ' H'
  | .ok (.rt d) ρ' => ∀ v σ' B' H', Step K σ B H ρ σ' B' H' ρ' → Rep K B' d v → Dn.rt v H'
  | .ok (.rn i) ρ' => (∃ o, ρ'[i]? = some (some (.own o))) ∧ ∀ v σ' B' H', Step K σ B H ρ σ' B' H' ρ' → σ'[i]? = some (some v) → Dn.rt v H'
  | .ex e ρ' => ∀ oc σ' B' H', Step K σ B H ρ σ' B' H' ρ' → RepX K B' H' e oc → E (.ref e.C) oc σ' H'
def tS (K : PySem.W.Frag) (E : WX) (h : M Out) : TS := fun Dn σ H => ∃ B ρ, Cf K B H σ ρ ∧ AtS K E σ B H ρ Dn (h ρ)
theorem AtS.from (st : Step K σ B H ρ σ1 B1 H1 ρ1) : ∀ {r : Rs Out}, AtS K E σ B H ρ Dn r → AtS K E σ1 B1 H1 ρ1 Dn r
  | .no, h => h
  | .ok .nx ρ', h => fun σ' B' H' s2 => h σ' B' H' (st.trans s2)
  | .ok .bk ρ', h => fun σ' B' H' s2 => h σ' B' H' (st.trans s2)
  | .ok .ct ρ', h => fun σ' B' H' s2 => h σ' B' H' (st.trans s2)
  | .ok (.rt d) ρ', h => fun v σ' B' H' s2 r => h v σ' B' H' (st.trans s2) r
  | .ok (.rn i) ρ', h => ⟨h.1, fun v σ' B' H' s2 r => h.2 v σ' B' H' (st.trans s2) r⟩
  | .ex e ρ', h => fun oc σ' B' H' s2 r => h oc σ' B' H' (st.trans s2) r
/-- an expression's part, then the rest, seen from the start too -/
theorem AtS.seq {α β : Type} {R : Rl α β} {f : M α} {g : α → M Out} (h : AtS K E σ B H ρ Dn ((f >>= g) ρ)) :
    At K E R σ B H ρ (fun x H1 => ∃ a B1 ρ1, Step K σ B H ρ σ B1 H1 ρ1 ∧ R H σ B1 H1 ρ1 a x ∧ AtS K E σ B H ρ Dn (g a ρ1)) (f ρ) := by
  cases e : f ρ with
  | no =>
    rw [bnd_no e] at h
    exact h.elim
  | ex x ρ' =>
    rw [bnd_ex e] at h
    exact fun oc σ' B' H' s2 r => h oc σ' B' H' s2 r
  | ok a ρ' =>
    rw [bnd_ok e] at h
    exact fun x B1 H1 st r => ⟨a, B1, ρ', st, r, h⟩
/-- a statement's part, then the rest -/
def thenS (h1 h2 : M Out) : M Out := h1 >>= fun o => match o with
  | .nx => h2
  | o => M.ret o
theorem AtS.then {h1 h2 : M Out} {Dn' : Ends} (h : AtS K E σ B H ρ Dn (thenS h1 h2 ρ)) (hn : ∀ σ' B' H' ρ', Step K σ B H ρ σ' B' H' ρ' → AtS K E σ B H ρ Dn (h2 ρ') → Dn'.nx σ' H')
    (hr : ∀ v H', Dn.rt v H' → Dn'.rt v H') (hb : ∀ s H', Dn.bk s H' → Dn'.bk s H') (hc : ∀ s H', Dn.ct s H' → Dn'.ct s H') : AtS K E σ B H ρ Dn' (h1 ρ) := by
  unfold thenS at h
  cases e : h1 ρ with
  | no =>
    rw [bnd_no e] at h
    exact h.elim
  | ex x ρ' =>
    rw [bnd_ex e] at h
    exact fun oc σ' B' H' s2 r => h oc σ' B' H' s2 r
  | ok o ρ' =>
    rw [bnd_ok e] at h
    cases o with
    | nx => exact fun σ' B' H' st => hn σ' B' H' ρ' st h
    | bk => exact fun σ' B' H' st => hb _ _ (h σ' B' H' st)
    | ct => exact fun σ' B' H' st => hc _ _ (h σ' B' H' st)
    | rt d => exact fun v σ' B' H' st r => hr _ _ (h v σ' B' H' st r)
    | rn i => exact ⟨h.1, fun v σ' B' H' st r => hr _ _ (h.2 v σ' B' H' st r)⟩
theorem AtS.opt {o : Option Rho} {Dn : Ends} : True := trivial
end
section
variable {X : Cx} {E : WX} {st : Stmt} {sts rest : List Stmt} {h1 h2 : M Out} {e : Expr} {pos : Pos} {f : M D}
theorem sd_nil : PSs X [] (tS X.K E (M.ret .nx)) := pss_weak pss_nil fun Dn σ H ⟨B, ρ, c, a⟩ => a _ _ _ (Step.refl c)
theorem sd_cons (p1 : PS X st (tS X.K E h1)) (p2 : PSs X rest (tS X.K E h2)) : PSs X (st :: rest) (tS X.K E (thenS h1 h2)) := by
  refine pss_weak (pss_cons p1 p2) fun Dn σ H ⟨B, ρ, c, h⟩ => ⟨B, ρ, c, ?_⟩
  exact h.then (fun σ' B' H' ρ' s k => ⟨B', ρ', s.cf, k.from s⟩) (fun _ _ z => z) (fun _ _ z => z) (fun _ _ z => z)
theorem sd_one (p1 : PS X st (tS X.K E h1)) : PSs X [st] (tS X.K E h1) := pss_one p1
/-- a slot's new value -/
theorem Cf.set {K : PySem.W.Frag} {σ : L2.St} {B : Fz} {H : Hp} {ρ : Rho} (c : Cf K B H σ ρ) (i : Nat) {d : D} {v : V} (r : Rep K B d v) : Step K σ B H ρ (σ.set i (some v)) B H (ρ.set i (some (.val d))) := by
  have back : ∀ (m : Ix) (x : Addr), OwnAt (σ.set i (some v)) B (ρ.set i (some (.val d))) m x → OwnAt σ B ρ m x := fun m x w => by
    cases m with
    | c n => exact w
    | s m =>
      obtain ⟨⟨o', w⟩, w2⟩ := w
      rcases getD_set w with ⟨_, w3, _⟩ | ⟨hm, w3⟩
      · cases w3
      · rw [List.getElem?_set_ne (Ne.symm hm)] at w2
        exact ⟨⟨o', w3⟩, w2⟩
  refine ⟨⟨c.bh, by rw [List.length_set, Rho.length_set]; exact c.len, fun j s q => ?_, fun j k q z1 z2 => c.sep j k q (back j q z1) (back k q z2), c.cl⟩, FSame.refl B, fun b o e _ => e, fun b e => e, fun b e n => absurd n e, fun b ⟨m, z⟩ => .inl ⟨m, back m b z⟩⟩
  rcases getD_set q with ⟨rfl, rfl, hl⟩ | ⟨hj, q⟩
  · rw [List.getElem?_set_self (by rw [c.len]; exact hl)]
    exact ⟨v, rfl, r⟩
  · rw [List.getElem?_set_ne (Ne.symm hj)]
    exact c.at_ j s q
def setS (i : Nat) (f : M D) : M Out := f >>= fun d => fun ρ => .ok .nx (ρ.set i (some (.val d)))
theorem sd_set {i : Nat} {x : Str} {pos' : Pos} (h : PE X e (tD X.K E f)) (p : ∀ {te : TE}, PE X e te → PS X (.Assign [.Name x pos'] e pos) (tAsg te (gName i))) : PS X (.Assign [.Name x pos'] e pos) (tS X.K E (setS i f)) := by
  refine ps_weak (p h) fun Dn σ H ⟨B, ρ, c, h⟩ => ⟨B, ρ, c, h.seq.imp ?_⟩
  rintro d ρ' x B' H1 - - - ⟨d, B1, ρ1, st1, rx, h1⟩
  exact h1 _ _ _ (st1.trans (st1.cf.set i rx))
/-- a slot takes a new object as its own -/
theorem Step.take {K : PySem.W.Frag} {σ σ1 : L2.St} {B B1 : Fz} {H H1 : Hp} {ρ ρ1 : Rho} (st : Step K σ B H ρ σ1 B1 H1 ρ1) (i : Nat) {o : O} {v : V} (r : RN K H σ1 B1 H1 ρ1 o v) : Step K σ B H ρ (σ1.set i (some v)) B1 H1 (ρ1.set i (some (.own o))) := by
  obtain ⟨p, u, rfl, n0, nB, hH, ro, no⟩ := r
  have c := st.cf
  have back : ∀ (m : Ix) (x : Addr), OwnAt (σ1.set i (some (.ref p))) B1 (ρ1.set i (some (.own o))) m x → (m = .s i ∧ x = p) ∨ (m ≠ .s i ∧ OwnAt σ1 B1 ρ1 m x) := fun m x w => by
    cases m with
    | c n => exact .inr ⟨fun z => (by cases z), w⟩
    | s m =>
      obtain ⟨⟨o', w⟩, w2⟩ := w
      rcases getD_set w with ⟨rfl, _, hl⟩ | ⟨hm, w3⟩
      · rw [List.getElem?_set_self (by rw [c.len]; exact hl)] at w2
        cases w2
        exact .inl ⟨rfl, rfl⟩
      · rw [List.getElem?_set_ne (Ne.symm hm)] at w2
        exact .inr ⟨fun z => hm (by injection z), ⟨o', w3⟩, w2⟩
  refine ⟨⟨c.bh, by rw [List.length_set, Rho.length_set]; exact c.len, fun j s q => ?_, fun j k q z1 z2 => ?_, c.cl⟩, st.bb, st.keep, st.there, st.new, fun b ⟨m, z⟩ => ?_⟩
  · rcases getD_set q with ⟨rfl, rfl, hl⟩ | ⟨hj, q⟩
    · rw [List.getElem?_set_self (by rw [c.len]; exact hl)]
      exact ⟨p, u, rfl, nB, hH, ro⟩
    · rw [List.getElem?_set_ne (Ne.symm hj)]
      exact c.at_ j s q
  · rcases back j q z1 with ⟨rfl, rfl⟩ | ⟨hj, y1⟩
    · rcases back k q z2 with ⟨rfl, _⟩ | ⟨hk, y2⟩
      · rfl
      · exact absurd ⟨k, y2⟩ no
    · rcases back k q z2 with ⟨rfl, rfl⟩ | ⟨hk, y2⟩
      · exact absurd ⟨j, y1⟩ no
      · exact c.sep j k q y1 y2
  · rcases back m b z with ⟨rfl, rfl⟩ | ⟨hm, y⟩
    · exact .inr n0
    · exact st.own b ⟨m, y⟩
def setN (i : Nat) (f : M O) : M Out := f >>= fun o => fun ρ => .ok .nx (ρ.set i (some (.own o)))
theorem sn_set {i : Nat} {x : Str} {pos' : Pos} {f : M O} (h : PE X e (tN X.K E f)) (p : ∀ {te : TE}, PE X e te → PS X (.Assign [.Name x pos'] e pos) (tAsg te (gName i))) : PS X (.Assign [.Name x pos'] e pos) (tS X.K E (setN i f)) := by
  refine ps_weak (p h) fun Dn σ H ⟨B, ρ, c, h⟩ => ⟨B, ρ, c, h.seq.imp ?_⟩
  rintro d ρ' x B' H1 - - - ⟨d, B1, ρ1, st1, rx, h1⟩
  exact h1 _ _ _ (st1.take i rx)
def retS (f : M D) : M Out := f >>= fun d => M.ret (.rt d)
theorem sd_ret (h : PE X e (tD X.K E f)) : PS X (.Return (some e) pos) (tS X.K E (retS f)) := by
  refine ps_weak (ps_ret h) fun Dn σ H ⟨B, ρ, c, h⟩ => ⟨B, ρ, c, h.seq.imp ?_⟩
  rintro d ρ' x B' H1 - - - ⟨d, B1, ρ1, st1, rx, h1⟩
  exact h1 _ _ _ _ st1 rx
def dropS (f : M D) : M Out := f >>= fun _ => M.ret .nx
theorem sd_expr (h : PE X e (tD X.K E f)) (hs : swapsWith e none pos.line X.env = pure false := by rfl) : PS X (.Expr e pos) (tS X.K E (dropS f)) := by
  refine ps_weak (ps_expr h hs) fun Dn σ H ⟨B, ρ, c, h⟩ => ⟨B, ρ, c, h.seq.imp ?_⟩
  rintro d ρ' x B' H1 - - - ⟨d, B1, ρ1, st1, rx, h1⟩
  exact h1 _ _ _ st1
theorem sd_if {t : Expr} {a b : List Stmt} {ft : M Bool} (ht : PT X t (tT X.K E ft)) (ha : PSs X a (tS X.K E h1)) (hb : PSs X b (tS X.K E h2)) : PS X (.If t a b pos) (tS X.K E (ifM ft h1 h2)) := by
  refine ps_weak (ps_if ht ha hb) fun Dn σ H ⟨B, ρ, c, h⟩ => ⟨B, ρ, c, h.seq.imp ?_⟩
  rintro d ρ' x B' H1 - - - ⟨d, B1, ρ1, st1, rx, h1⟩
  have e : d = x := rx
  subst e
  cases d with
  | true => exact iteT ⟨B1, ρ1, st1.cf, h1.from st1⟩
  | false => exact iteF ⟨B1, ρ1, st1.cf, h1.from st1⟩
theorem Cl.put' {K : PySem.W.Frag} {B : Fz} {H : Hp} {g : Cells} (c : Cl K B H g) {p : Addr} {u : HO} (hn : ∀ n o, g[n]? = some o → B.π n ≠ some p) : Cl K B (L2.upd H p u) g :=
  c.to (FSame.refl B) c.dom (fun n o a h1 h2 => by
    have hr : a ≠ p := fun z => hn n o h1 (by rw [h2, z])
    obtain ⟨a', u', g1, g2, g3, g4⟩ := c.at_ n o h1
    rw [h2] at g1
    cases g1
    exact ⟨by rw [upd_ne hr], g2⟩) fun n a h => by
    by_cases hb : a = p
    · subst hb
      rw [upd_same]
      exact fun z => by cases z
    · rw [upd_ne hb]
      exact c.pin n a h
theorem Cf.put {K : PySem.W.Frag} {σ : L2.St} {B : Fz} {H : Hp} {ρ : Rho} (c : Cf K B H σ ρ) {i : Nat} {o o' : O} {p : Addr} {u : HO} (h : ρ[i]? = some (some (.own o))) (e : σ[i]? = some (some (.ref p))) (r : RepO K B o' u) :
    Step K σ B H ρ σ B (upd H p u) (ρ.set i (some (.own o'))) := by
  obtain ⟨p', u', e1, b1, k1, r1, oa1⟩ := c.own h
  rw [e] at e1
  cases e1
  have hl : i < ρ.length := (List.getElem?_eq_some_iff.mp h).1
  have back : ∀ (m : Ix) (x : Addr), OwnAt σ B (ρ.set i (some (.own o'))) m x → OwnAt σ B ρ m x := fun m x w => by
    cases m with
    | c n => exact w
    | s m =>
      obtain ⟨⟨o2, w⟩, w2⟩ := w
      rcases getD_set w with ⟨rfl, w3, _⟩ | ⟨hm, w3⟩
      · exact ⟨⟨o, h⟩, w2⟩
      · exact ⟨⟨o2, w3⟩, w2⟩
  refine ⟨⟨fun b w q => ?_, by rw [Rho.length_set]; exact c.len, fun j s q => ?_, fun j k q z1 z2 => c.sep j k q (back j q z1) (back k q z2), c.cl.put' fun n o2 h1 z => ?_⟩, FSame.refl B, fun b w q n => ?_, fun b q => ?_, fun b q n => absurd n q, fun b ⟨m, z⟩ => .inl ⟨m, back m b z⟩⟩
  · rw [upd_ne (ne_of_none q b1)]
    exact c.bh b w q
  · rcases getD_set q with ⟨rfl, rfl, _⟩ | ⟨hj, q⟩
    · exact ⟨p, u, by rw [e]; rfl, b1, upd_same, r⟩
    · have z := c.at_ j s q
      cases s with
      | none => trivial
      | some s =>
        cases s with
        | val d => exact z
        | own o2 =>
          obtain ⟨p2, u2, e2, b2, k2, r2, oa2⟩ := c.own q
          have np : p2 ≠ p := fun y => by
            subst y
            have := c.sep (.s j) (.s i) p2 oa2 oa1
            injection this with this
            exact hj this
          exact ⟨p2, u2, by rw [e2]; rfl, b2, by rw [upd_ne np]; exact k2, r2⟩
  · have := c.sep (.c n) (.s i) p ⟨⟨o2, h1⟩, z⟩ oa1
    cases this
  · have nb : b ≠ p := fun y => by
      subst y
      exact n ⟨_, oa1⟩
    rw [upd_ne nb]
    exact q
  · by_cases hb : b = p
    · subst hb
      rw [upd_same]
      exact fun z => by cases z
    · rw [upd_ne hb]
      exact q
end
/-- a new object becomes a cell -/
theorem Step.cell {K : PySem.W.Frag} {σ σ1 : L2.St} {B B1 : Fz} {H H1 : Hp} {ρ ρ1 : Rho} (st : Step K σ B H ρ σ1 B1 H1 ρ1) {o : O} {v : V} (r : RN K H σ1 B1 H1 ρ1 o v) :
    ∃ p, v = .ref p ∧ Step K σ B H ρ σ1 (Fz.add B1 ρ1.g.length p) H1 ⟨ρ1.l, ρ1.g ++ [o]⟩ := by
  obtain ⟨p, u, rfl, n0, nB, hH, ro, no⟩ := r
  have c := st.cf
  have sB : FSame B1 (Fz.add B1 ρ1.g.length p) := ⟨Same.refl _, fun n a e => by
    show (if n = ρ1.g.length then some p else B1.π n) = some a
    split
    · rename_i h
      rw [c.cl.dom n (by omega)] at e
      cases e
    · exact e⟩
  have get : ∀ n o', (ρ1.g ++ [o])[n]? = some o' → (n < ρ1.g.length ∧ ρ1.g[n]? = some o') ∨ (n = ρ1.g.length ∧ o' = o) := fun n o' e => by
    by_cases l : n < ρ1.g.length
    · rw [List.getElem?_append_left l] at e
      exact .inl ⟨l, e⟩
    · rw [List.getElem?_append_right (by omega)] at e
      by_cases z : n = ρ1.g.length
      · subst z
        rw [Nat.sub_self] at e
        cases e
        exact .inr ⟨rfl, rfl⟩
      · rw [List.getElem?_eq_none (by rw [List.length_singleton]; omega)] at e
        cases e
  have back : ∀ (m : Ix) (x : Addr), OwnAt σ1 (Fz.add B1 ρ1.g.length p) ⟨ρ1.l, ρ1.g ++ [o]⟩ m x → (m = .c ρ1.g.length ∧ x = p) ∨ (m ≠ .c ρ1.g.length ∧ OwnAt σ1 B1 ρ1 m x) := fun m x w => by
    cases m with
    | s n => exact .inr ⟨fun z => (by cases z), w⟩
    | c n =>
      obtain ⟨⟨o', w⟩, w2⟩ := w
      have w2 : (if n = ρ1.g.length then some p else B1.π n) = some x := w2
      rcases get n o' w with ⟨l, w⟩ | ⟨rfl, rfl⟩
      · rw [if_neg (by omega)] at w2
        exact .inr ⟨fun z => by injection z with z; omega, ⟨o', w⟩, w2⟩
      · rw [if_pos rfl] at w2
        cases w2
        exact .inl ⟨rfl, rfl⟩
  refine ⟨p, rfl, ⟨c.bh, c.len, fun j s q => ?_, fun j k q z1 z2 => ?_, ⟨fun n o' e => ?_, fun n l => ?_, fun n a e => ?_⟩⟩, st.bb.trans sB, st.keep, st.there, st.new, fun b ⟨m, z⟩ => ?_⟩
  · have z := c.at_ j s q
    cases s with
    | none => trivial
    | some s =>
      cases s with
      | val d =>
        obtain ⟨x, h1, h2⟩ := z
        exact ⟨x, h1, h2.mono sB⟩
      | own o2 =>
        obtain ⟨p2, u2, e2, b2, k2, r2⟩ := z
        exact ⟨p2, u2, e2, b2, k2, r2.mono sB⟩
  · rcases back j q z1 with ⟨rfl, rfl⟩ | ⟨hj, y1⟩
    · rcases back k q z2 with ⟨rfl, _⟩ | ⟨hk, y2⟩
      · rfl
      · exact absurd ⟨k, y2⟩ no
    · rcases back k q z2 with ⟨rfl, rfl⟩ | ⟨hk, y2⟩
      · exact absurd ⟨j, y1⟩ no
      · exact c.sep j k q y1 y2
  · rcases get n o' e with ⟨l, e⟩ | ⟨rfl, rfl⟩
    · obtain ⟨a, h, h1, h2, h3, h4⟩ := c.cl.at_ n o' e
      exact ⟨a, h, sB.π _ _ h1, h2, h3, h4.mono sB⟩
    · exact ⟨p, u, by show (if _ then _ else _) = _; rw [if_pos rfl], nB, hH, ro.mono sB⟩
  · have l : (ρ1.g ++ [o]).length ≤ n := l
    rw [List.length_append, List.length_singleton] at l
    show (if n = ρ1.g.length then some p else B1.π n) = none
    rw [if_neg (by omega)]
    exact c.cl.dom n (by omega)
  · have e : (if n = ρ1.g.length then some p else B1.π n) = some a := e
    split at e
    · cases e
      rw [hH]
      exact fun z => by cases z
    · exact c.cl.pin n a e
  · rcases back m b z with ⟨rfl, rfl⟩ | ⟨hm, y⟩
    · exact .inr n0
    · exact st.own b ⟨m, y⟩
/-- a new object becomes a cell -/
def cellM (f : M O) : M D := f >>= fun o => fun ρ => .ok (.ptr ρ.g.length) ⟨ρ.l, ρ.g ++ [o]⟩
theorem pd_cell {X : Cx} {E : WX} {e : Expr} {f : M O} (h : PE X e (tN X.K E f)) : PE X e (tD X.K E (cellM f)) := by
  refine pe_weak h fun σ H Q ⟨B, ρ, c, h⟩ => ⟨B, ρ, c, h.seqS.imp ?_⟩
  rintro d ρ' x B' H1 - - - ⟨o, B1, ρ1, st1, r, h1⟩
  obtain ⟨p, rfl, s2⟩ := st1.cell r
  refine h1 _ _ _ s2 ?_
  show Rep X.K _ (.ptr _) (.ref p)
  simp only [Rep]
  exact ⟨p, rfl, by show (if _ then _ else _) = _; rw [if_pos rfl]⟩
inductive Ref where
  | s (i : Nat) | c (n : Nat)
def getR (ρ : Rho) : Ref → Option O
  | .s i => match ρ[i]? with
    | some (some (.own o)) => some o
    | _ => none
  | .c n => ρ.g[n]?
def setR (ρ : Rho) (r : Ref) (o : O) : Rho := match r with
  | .s i => ρ.set i (some (.own o))
  | .c n => ⟨ρ.l, ρ.g.set n o⟩
def RR (K : PySem.W.Frag) : Rl Ref V := fun _ σ B _ _ r v => match r with
  | .s i => σ[i]? = some (some v)
  | .c n => Rep K B (.ptr n) v
instance (K : PySem.W.Frag) : RlM (RR K) := ⟨fun _ h => h⟩
abbrev tF (K : PySem.W.Frag) (E : WX) (f : M Ref) : TE := tR K E (RR K) f
section
variable {K : PySem.W.Frag} {E : WX} {σ : L2.St} {B B' : Fz} {H H' : Hp} {ρ ρ' : Rho}
theorem RR.mono {H0 H0' : Hp} {r : Ref} {v : V} (st : Step K σ B H ρ σ B' H' ρ') (h : RR K H0 σ B H ρ r v) : RR K H0' σ B' H' ρ' r v := by
  cases r with
  | c n => exact Rep.mono st.bb h
  | s i => exact h
theorem getR_s {i : Nat} {o : O} (e : getR ρ (.s i) = some o) : ρ[i]? = some (some (.own o)) := by
  simp only [getR] at e
  split at e
  · rename_i o' q
    cases e
    exact q
  · cases e
theorem getR_c {i : Nat} {o : O} (e : getR ρ (.c i) = some o) : ρ.g[i]? = some o := e
def Ref.ix : Ref → Ix
  | .s i => .s i
  | .c n => .c n
theorem Cf.ref {H0 : Hp} (c : Cf K B H σ ρ) {r : Ref} {v : V} {o : O} (h : RR K H0 σ B H ρ r v) (e : getR ρ r = some o) : ∃ p u, v = .ref p ∧ B p = none ∧ H p = some u ∧ RepO K B o u ∧ OwnAt σ B ρ r.ix p := by
  cases r with
  | s i =>
    obtain ⟨p, u, e1, b1, k1, r1, oa⟩ := c.own (getR_s e)
    have h : σ[i]? = some (some v) := h
    rw [h] at e1
    cases e1
    exact ⟨p, u, rfl, b1, k1, r1, oa⟩
  | c n =>
    obtain ⟨a, u, e1, b1, k1, r1⟩ := c.cl.at_ n _ (getR_c e)
    have h2 : Rep K B (.ptr n) v := h
    simp only [Rep] at h2
    obtain ⟨a', rfl, h2⟩ := h2
    rw [e1] at h2
    cases h2
    exact ⟨a, u, rfl, b1, k1, r1, ⟨_, getR_c e⟩, e1⟩
/-- what stands at a reference is changed -/
theorem Cf.putR {H0 : Hp} (c : Cf K B H σ ρ) {r : Ref} {p : Addr} {o o' : O} {u : HO} (h : RR K H0 σ B H ρ r (.ref p)) (e : getR ρ r = some o) (ro : RepO K B o' u) : Step K σ B H ρ σ B (upd H p u) (setR ρ r o') := by
  cases r with
  | s i =>
    exact c.put (getR_s e) h ro
  | c n =>
    obtain ⟨p', u', e1, b1, k1, r1, oa1⟩ := c.ref h e
    cases e1
    obtain ⟨⟨o2, q⟩, hp⟩ := oa1
    have hl : n < ρ.g.length := (List.getElem?_eq_some_iff.mp q).1
    have get : ∀ m o3, (ρ.g.set n o')[m]? = some o3 → (m = n ∧ o3 = o') ∨ (m ≠ n ∧ ρ.g[m]? = some o3) := fun m o3 w => by
      by_cases z : m = n
      · subst z
        rw [List.getElem?_set_self hl] at w
        cases w
        exact .inl ⟨rfl, rfl⟩
      · rw [List.getElem?_set_ne (Ne.symm z)] at w
        exact .inr ⟨z, w⟩
    have back : ∀ (m : Ix) (x : Addr), OwnAt σ B ⟨ρ.l, ρ.g.set n o'⟩ m x → OwnAt σ B ρ m x := fun m x w => by
      cases m with
      | s m => exact w
      | c m =>
        obtain ⟨⟨o3, w⟩, w2⟩ := w
        rcases get m o3 w with ⟨rfl, rfl⟩ | ⟨hm, w3⟩
        · exact ⟨⟨o2, q⟩, w2⟩
        · exact ⟨⟨o3, w3⟩, w2⟩
    have oa : OwnAt σ B ρ (.c n) p := ⟨⟨o2, q⟩, hp⟩
    refine ⟨⟨fun b w q => ?_, c.len, fun j s q => ?_, fun j k q z1 z2 => c.sep j k q (back j q z1) (back k q z2), ⟨fun m o3 w => ?_, fun m l => c.cl.dom m (by simpa [setR] using l), fun m a w => ?_⟩⟩, FSame.refl B, fun b w q n => ?_, fun b q => ?_, fun b q n => absurd n q, fun b ⟨m, z⟩ => .inl ⟨m, back m b z⟩⟩
    · rw [upd_ne (ne_of_none q b1)]
      exact c.bh b w q
    · have z := c.at_ j s q
      cases s with
      | none => trivial
      | some s =>
        cases s with
        | val d => exact z
        | own o2 =>
          obtain ⟨p2, u2, e2, b2, k2, r2, oa2⟩ := c.own q
          have np : p2 ≠ p := fun y => by
            subst y
            have := c.sep (.s j) (.c n) p2 oa2 oa
            cases this
          exact ⟨p2, u2, by rw [e2]; rfl, b2, by rw [upd_ne np]; exact k2, r2⟩
    · rcases get m o3 w with ⟨rfl, rfl⟩ | ⟨hm, w⟩
      · exact ⟨p, u, hp, b1, upd_same, ro⟩
      · obtain ⟨a, h3, h1, h2, h4, h5⟩ := c.cl.at_ m o3 w
        have np : a ≠ p := fun y => by
          subst y
          have := c.sep (.c m) (.c n) a ⟨⟨o3, w⟩, h1⟩ oa
          injection this with this
          exact hm this
        exact ⟨a, h3, h1, h2, by rw [upd_ne np]; exact h4, h5⟩
    · by_cases hb : a = p
      · subst hb
        rw [upd_same]
        exact fun z => by cases z
      · rw [upd_ne hb]
        exact c.cl.pin m a w
    · have nb : b ≠ p := fun y => by
        subst y
        exact n ⟨_, oa⟩
      rw [upd_ne nb]
      exact q
    · by_cases hb : b = p
      · subst hb
        rw [upd_same]
        exact fun z => by cases z
      · rw [upd_ne hb]
        exact q
end
/-- a name's object -/
def refS (i : Nat) : M Ref := fun ρ => match ρ[i]? with
  | some (some (.own _)) => .ok (.s i) ρ
  | some (some (.val (.ptr n))) => .ok (.c n) ρ
  | _ => .no
/-- an expression's object -/
def asRef : D → Option Ref
  | .ptr n => some (.c n)
  | _ => none
def refD (f : M D) : M Ref := f >>= fun d => M.opt (asRef d)
/-- what stands there is changed -/
def updO {α : Type} (r : Ref) (op : O → Option (α × O)) : M α := fun ρ => match getR ρ r with
  | some o => match op o with
    | some (z, o') => .ok z (setR ρ r o')
    | none => .no
  | none => .no
/-- it stands there, of a kind -/
def chkO {α : Type} (r : Ref) (g : O → Option α) : M α := fun ρ => match getR ρ r with
  | some o => match g o with
    | some z => .ok z ρ
    | none => .no
  | none => .no
def isL : O → Option (List D)
  | .lst ds => some ds
  | _ => none
def opL (op : List D → Option (D × List D)) : O → Option (D × O)
  | .lst ds => (op ds).map fun z => (z.1, .lst z.2)
  | _ => none
section
variable {X : Cx} {E : WX} {x : Str} {pos : Pos} {e : Expr} {f : M D}
theorem pf_var (i : Nat) (h : PE X (.Name x pos) (tVar i)) : PE X (.Name x pos) (tF X.K E (refS i)) := by
  refine pe_weak h fun σ H Q ⟨B, ρ, c, a⟩ => ?_
  unfold refS at a
  split at a
  · rename_i o q
    obtain ⟨p, u, e1, b1, k1, r1, oa1⟩ := c.own q
    exact ⟨_, e1, a.here c e1⟩
  · rename_i n q
    obtain ⟨v, e1, r⟩ := c.val q
    exact ⟨v, e1, a.here c r⟩
  · exact a.elim
end
theorem At.updO {α β : Type} {R : Rl α β} {K : PySem.W.Frag} {E : WX} {σ : L2.St} {B : Fz} {H H0 : Hp} {ρ : Rho} {Q : β → Hp → Prop} {r : Ref} {v : V} {op : O → Option (α × O)} (c : Cf K B H σ ρ) (hr : RR K H0 σ B H ρ r v) (h : At K E R σ B H ρ Q (Nc.updO r op ρ)) :
    ∃ p u o z o', v = .ref p ∧ H p = some u ∧ RepO K B o u ∧ op o = some (z, o') ∧ ∀ w u', RepO K B o' u' → R H σ B (upd H p u') (setR ρ r o') z w → Q w (upd H p u') := by
  unfold Nc.updO at h
  cases e : getR ρ r with
  | none =>
    rw [e] at h
    exact h.elim
  | some o =>
    rw [e] at h
    cases eg : op o with
    | none =>
      simp only [eg] at h
      exact h.elim
    | some q =>
      obtain ⟨z, o'⟩ := q
      simp only [eg] at h
      obtain ⟨p, u, rfl, b1, k1, r1, oa⟩ := c.ref hr e
      exact ⟨p, u, o, z, o', rfl, k1, r1, eg, fun w u' ru rz => h w B _ (c.putR hr e ru) rz⟩
theorem At.chkO {α γ δ : Type} {R' : Rl γ δ} {K : PySem.W.Frag} {E : WX} {σ : L2.St} {B : Fz} {H : Hp} {ρ : Rho} {Q : δ → Hp → Prop} {r : Ref} {g : O → Option α} {k : α → M γ} (h : At K E R' σ B H ρ Q ((Nc.chkO r g >>= k) ρ)) :
    ∃ o z, getR ρ r = some o ∧ g o = some z ∧ At K E R' σ B H ρ Q (k z ρ) := by
  cases e : getR ρ r with
  | none =>
    have : Nc.chkO r g ρ = .no := by unfold Nc.chkO; rw [e]
    rw [bnd_no this] at h
    exact h.elim
  | some o =>
    cases eg : g o with
    | none =>
      have : Nc.chkO r g ρ = .no := by unfold Nc.chkO; simp only [e, eg]
      rw [bnd_no this] at h
      exact h.elim
    | some z =>
      have : Nc.chkO r g ρ = .ok z ρ := by unfold Nc.chkO; simp only [e, eg]
      rw [bnd_ok this] at h
      exact ⟨o, z, rfl, eg, h⟩
theorem isL_some {o : O} {ds : List D} (h : isL o = some ds) : o = .lst ds := by
  cases o <;> simp only [isL, reduceCtorEq] at h
  cases h
  rfl
theorem opL_some {op : List D → Option (D × List D)} {o o' : O} {z : D} (h : opL op o = some (z, o')) : ∃ ds es, o = .lst ds ∧ o' = .lst es ∧ op ds = some (z, es) := by
  cases o <;> simp only [opL, reduceCtorEq] at h
  obtain ⟨q, e1, e2⟩ := Option.map_eq_some_iff.mp h
  cases e2
  exact ⟨_, _, rfl, rfl, by rw [e1]⟩
/-- name.m(e), the list one that may change -/
def lm1 (op : List D → D → Option (D × List D)) (fr : M Ref) (f : M D) : M D := fr >>= fun r => chkO r isL >>= fun _ => f >>= fun d => updO r (opL fun ds => op ds d)
def lm0 (op : List D → Option (D × List D)) (fr : M Ref) : M D := fr >>= fun r => updO r (opL op)
def Mt1 (K : PySem.W.Frag) (r : V → List V → Hp → VK → Prop) (op : List D → D → Option (D × List D)) : Prop := ∀ (B : Fz) (H : Hp) (l : Addr) (xs : List V) (ds es : List D) (d z : D) (y : V) (Q : VK), Same B.h H → H l = some (.lst xs) → Reps K B ds xs → Rep K B d y → op ds d = some (z, es) →
  (∀ v ys, Rep K B z v → Reps K B es ys → Q v (upd H l (.lst ys))) → r (.ref l) [y] H Q
section
variable {X : Cx} {E : WX} {e : Expr} {f : M D} {fr : M Ref} {x name : Str} {p1 p2 p3 : Pos} {r : V → List V → Hp → VK → Prop}
theorem lm1_read {op : List D → D → Option (D × List D)} (hr : Mt1 X.K r op) : ∀ σ H Q, tD X.K E (lm1 op fr f) σ H Q → tBM X.K "list" r (tF X.K E fr) (tCons (tD X.K E f) tNil) σ H Q := by
  rintro σ H Q ⟨B, ρ, c, h⟩
  refine ⟨B, ρ, c, h.seq.imp ?_⟩
  rintro d ρ' v B' H1 - - - ⟨rf, B1, ρ1, st1, rr, h1⟩
  obtain ⟨o, ds, eo, el, h1⟩ := h1.chkO
  have el := isL_some el
  subst el
  obtain ⟨p, u, rfl, b1, k1, ⟨xs, rfl, r1⟩, oa⟩ := st1.cf.ref rr eo
  refine ⟨.inl ⟨rfl, xs, SqL.of k1⟩, B1, ρ1, st1.cf, h1.seq.imp ?_⟩
  rintro d ρ' y B' H2 - - - ⟨d, B2, ρ2, st2, ry, h2⟩
  obtain ⟨p', u, o, z, o', ep, k2, ro, eg, q⟩ := At.updO st2.cf (RR.mono (H0' := H2) st2 rr) h2
  cases ep
  obtain ⟨ds', es, rfl, rfl, eg'⟩ := opL_some eg
  obtain ⟨xs', rfl, r2⟩ := ro
  exact hr B2 H2 p xs' ds' es d z y Q st2.cf.bh k2 r2 ry eg' fun v ys rv ry => q v _ ⟨ys, rfl, ry⟩ rv
end
def appOp (ds : List D) (d : D) : Option (D × List D) := if ds.length < sizeLine then some (.non, ds ++ [d]) else none
section
variable {K : PySem.W.Frag}
theorem mt1_append : Mt1 K rAppend appOp := by
  intro B H l xs ds es d z y Q _ hl r rd ez k
  unfold appOp at ez
  split at ez
  · rename_i hz
    cases ez
    rw [r.length] at hz
    exact ⟨l, xs, y, rfl, rfl, hl, hz, k _ _ (by simp only [Rep]) (r.append (Reps.cons rd Reps.nil))⟩
  · cases ez
theorem Reps.reverse {B : Fz} : ∀ {ds : List D} {vs : List V}, Reps K B ds vs → Reps K B ds.reverse vs.reverse
  | [], _, h => by
    simp only [Reps] at h
    subst h
    exact Reps.nil
  | d :: ds, vs, h => by
    simp only [Reps] at h
    obtain ⟨x, xs, rfl, h2, h3⟩ := h
    rw [List.reverse_cons, List.reverse_cons]
    exact (Reps.reverse h3).append (Reps.cons h2 Reps.nil)
end
section
variable {X : Cx} {E : WX} {e o : Expr} {f : M D} {fr : M Ref} {x : Str} {p1 p2 p3 : Pos}
theorem pm_append (hx : PE X o (tF X.K E fr)) (he : PE X e (tD X.K E f))
    (hbase : attributeBase o "append" X.env (eval o X.env) = eval o X.env := by rfl)
    (hfew : ((backTo p3 (starEach [e] X.env)).all (fun x => !x.1) && (backToKw p3 (keywordEach [] X.env)).all (fun x => x.1.isSome)
      && decide ([e].length + ([] : List Keyword).length + (if ([] : List Keyword).isEmpty then 0 else 1) < 30)) = true := by rfl)
    (hline : (p2.endLine == p3.line) = true := by rfl) (hs : starEach [e] X.env = (false, eval e X.env) :: starEach [] X.env := by rfl) (hplain : (backTo p3 (starEach [] X.env)).any (·.1) = false := by rfl) :
    PE X (.Call (.Attribute o "append" p2) [e] [] p3) (tD X.K E (lm1 appOp fr f)) :=
  pe_weak (pe_bm PySem.F.plainAttrs_list PySem.F.slot_list_append PySem.F.type_list_append mt_append hx (pa_cons he pa_nil hs) hbase hfew hline hs hplain) (lm1_read mt1_append)
def setIx (ds : List D) (j d : D) : Option (List D) := match j with
  | .int k => (ixN ds.length k).map fun n => ds.set n d
  | _ => none
def itemS (fr : M Ref) (f fj : M D) : M Out := f >>= fun d => fr >>= fun r => chkO r isL >>= fun _ => fj >>= fun j => updO r (opL fun ds => (setIx ds j d).map fun es => (.non, es)) >>= fun _ => M.ret .nx
theorem AtS.chkO {α : Type} {K : PySem.W.Frag} {E : WX} {σ : L2.St} {B : Fz} {H : Hp} {ρ : Rho} {Dn : Ends} {r : Ref} {g : O → Option α} {k : α → M Out} (h : AtS K E σ B H ρ Dn ((Nc.chkO r g >>= k) ρ)) :
    ∃ o z, getR ρ r = some o ∧ g o = some z ∧ AtS K E σ B H ρ Dn (k z ρ) := by
  cases e : getR ρ r with
  | none =>
    have : Nc.chkO r g ρ = .no := by unfold Nc.chkO; rw [e]
    rw [bnd_no this] at h
    exact h.elim
  | some o =>
    cases eg : g o with
    | none =>
      have : Nc.chkO r g ρ = .no := by unfold Nc.chkO; simp only [e, eg]
      rw [bnd_no this] at h
      exact h.elim
    | some z =>
      have : Nc.chkO r g ρ = .ok z ρ := by unfold Nc.chkO; simp only [e, eg]
      rw [bnd_ok this] at h
      exact ⟨o, z, rfl, eg, h⟩
/-- what stands at a reference is changed, then the rest -/
theorem AtS.updO {α : Type} {K : PySem.W.Frag} {E : WX} {σ : L2.St} {B : Fz} {H H0 : Hp} {ρ : Rho} {Dn : Ends} {r : Ref} {v : V} {op : O → Option (α × O)} {k : α → M Out} (c : Cf K B H σ ρ) (hr : RR K H0 σ B H ρ r v) (h : AtS K E σ B H ρ Dn ((Nc.updO r op >>= k) ρ)) :
    ∃ p u o z o', v = .ref p ∧ H p = some u ∧ RepO K B o u ∧ op o = some (z, o') ∧ ∀ u', RepO K B o' u' → Step K σ B H ρ σ B (upd H p u') (setR ρ r o') ∧ AtS K E σ B (upd H p u') (setR ρ r o') Dn (k z (setR ρ r o')) := by
  cases e : getR ρ r with
  | none =>
    have : Nc.updO r op ρ = .no := by unfold Nc.updO; rw [e]
    rw [bnd_no this] at h
    exact h.elim
  | some o =>
    cases eg : op o with
    | none =>
      have : Nc.updO r op ρ = .no := by unfold Nc.updO; simp only [e, eg]
      rw [bnd_no this] at h
      exact h.elim
    | some q =>
      obtain ⟨z, o'⟩ := q
      have : Nc.updO r op ρ = .ok z (setR ρ r o') := by unfold Nc.updO; simp only [e, eg]
      rw [bnd_ok this] at h
      obtain ⟨p, u, rfl, b1, k1, r1, oa⟩ := c.ref hr e
      exact ⟨p, u, o, z, o', rfl, k1, r1, eg, fun u' ru => ⟨c.putR hr e ru, h.from (c.putR hr e ru)⟩⟩
theorem sd_item {ej : Expr} {fj : M D} {ps pos : Pos} (hx : PE X o (tF X.K E fr)) (hj : PE X ej (tD X.K E fj)) (he : PE X e (tD X.K E f))
    (ha : ∀ v, assign (.Subscript o ej ps) X.env v = (do
      let ov ← holding [v] (eval o X.env)
      let iv ← holding [v, ov] (eval ej X.env)
      standAt ps
      holding [v, ov, iv] (setItem ov iv v)
      release [v, ov, iv] []) := by intro _; rfl)
    (hs : swapsWithSole [.Subscript o ej ps] e pos.line X.env = pure false := by rfl) (hw : swappedStores [.Subscript o ej ps] e X.env = pure none := by rfl)
    (h1 : (assignEach [.Subscript o ej ps] X.env).map (·.2) = [assign (.Subscript o ej ps) X.env] := by rfl) :
    PS X (.Assign [.Subscript o ej ps] e pos) (tS X.K E (itemS fr f fj)) := by
  refine ps_weak (ps_asg he (pg_sub hx hj set_list ha) hs hw h1) fun Dn σ H ⟨B, ρ, c, h⟩ => ⟨B, ρ, c, h.seq.imp ?_⟩
  rintro d ρ' v B' H1 - - - ⟨d, B1, ρ1, st1, rv, h1⟩
  have rv : Rep X.K B1 d v := rv
  have h1 := h1.from st1
  refine ⟨B1, ρ1, st1.cf, h1.seq.imp ?_⟩
  rintro d' ρ' w B' H2 - - - ⟨rf, B2, ρ2, st2, rr, h2⟩
  have h2 := h2.from st2
  obtain ⟨o, ds, eo, el, h2⟩ := h2.chkO
  have el := isL_some el
  subst el
  obtain ⟨p, u, rfl, b1, k1, ⟨xs, rfl, r1⟩, oa⟩ := st2.cf.ref rr eo
  refine ⟨B2, ρ2, st2.cf, h2.seq.imp ?_⟩
  rintro j ρ' w B' H3 - - - ⟨j, B3, ρ3, st3, rj, h3⟩
  have rj : Rep X.K B3 j w := rj
  obtain ⟨p', u, o, z, o', ep, k2, ro, eg, q⟩ := AtS.updO st3.cf (RR.mono (H0' := H3) st3 rr) (h3.from st3)
  cases ep
  obtain ⟨ds', es, rfl, rfl, eg'⟩ := opL_some eg
  obtain ⟨xs', rfl, r2⟩ := ro
  obtain ⟨es', ee, e2⟩ := Option.map_eq_some_iff.mp eg'
  cases e2
  cases j <;> try (simp only [setIx, reduceCtorEq] at ee; done)
  have ew := rep_int rj
  subst ew
  rename_i k
  obtain ⟨n, en, ee⟩ := Option.map_eq_some_iff.mp ee
  subst ee
  rw [r2.length] at en
  obtain ⟨sq, aq⟩ := q _ ⟨_, rfl, r2.set n ((rv.mono st2.bb).mono st3.bb)⟩
  exact ⟨p, xs', _, n, rfl, rfl, k2, en, aq _ _ _ (Step.refl sq.cf)⟩
end
end Nc
namespace Nc
open PySem PySem.Spec PyProof.Rows L2
/-- the tree d is stored by a target whose names stand at the slots ts -/
def gD (K : PySem.W.Frag) (ts : List Nat) (bnd : D → M Unit) : TG := fun v σ H Q => ∃ B ρ d, Cf K B H σ ρ ∧ Rep K B d v ∧ ∃ ρ', bnd d ρ = .ok () ρ' ∧
  ∀ σ' B' H', Step K σ B H ρ σ' B' H' ρ' → σ'.length = σ.length → (∀ j, j ∉ ts → σ'[j]? = σ[j]?) → (∀ j, j ∉ ts → ρ'[j]? = ρ[j]?) → Q σ' H'
def bndN (i : Nat) : D → M Unit := fun d ρ => .ok () (ρ.set i (some (.val d)))
def bndS : List Nat → List D → Rho → Rs Unit
  | [], [], ρ => .ok () ρ
  | i :: is, d :: ds, ρ => bndS is ds (ρ.set i (some (.val d)))
  | _, _, _ => .no
section
variable {X : Cx} {pos : Pos}
theorem pg_weak {e : Expr} {t t' : TG} (h : PG X e t) (k : ∀ v σ H Q, t' v σ H Q → t v σ H Q) : PG X e t' := ⟨fun pins s σ H v u Q I r q => h.run pins s σ H v u Q I r (k v σ H Q q)⟩
theorem gd_name {i : Nat} {x : Str} (h : PG X (.Name x pos) (gName i)) : PG X (.Name x pos) (gD X.K [i] (bndN i)) := by
  refine pg_weak h fun v σ H Q ⟨B, ρ, d, c, r, ρ', e, k⟩ => ?_
  cases e
  exact k _ _ _ (c.set i r) (by rw [List.length_set]) (fun j hj => List.getElem?_set_ne fun z => hj (by simp [z])) (fun j hj => List.getElem?_set_ne fun z => hj (by simp [z]))
/-- several targets that are names -/
def gsD (K : PySem.W.Frag) (is : List Nat) : TGs := fun vs σ H Q => ∃ B ρ ds, Cf K B H σ ρ ∧ Reps K B ds vs ∧ ∃ ρ', bndS is ds ρ = .ok () ρ' ∧
  ∀ σ' B' H', Step K σ B H ρ σ' B' H' ρ' → σ'.length = σ.length → (∀ j, j ∉ is → σ'[j]? = σ[j]?) → (∀ j, j ∉ is → ρ'[j]? = ρ[j]?) → Q σ' H'
theorem pgs_weak {es : List Expr} {t t' : TGs} (h : PGs X es t) (k : ∀ v σ H Q, t' v σ H Q → t v σ H Q) : PGs X es t' := ⟨fun pins s σ H v u Q I r q => h.run pins s σ H v u Q I r (k v σ H Q q)⟩
theorem gds_nil : PGs X [] (gsD X.K []) := by
  refine pgs_weak pgs_nil fun vs σ H Q ⟨B, ρ, ds, c, r, ρ', e, k⟩ => ?_
  cases ds with
  | nil =>
    simp only [bndS] at e
    cases e
    simp only [Reps] at r
    exact ⟨r, k _ _ _ (Step.refl c) rfl (fun _ _ => rfl) (fun _ _ => rfl)⟩
  | cons d ds => simp only [bndS, reduceCtorEq] at e
theorem gds_cons {i : Nat} {is : List Nat} {x : Str} {p : Pos} {es : List Expr} (h : PG X (.Name x p) (gName i)) (t : PGs X es (gsD X.K is)) (hs : (assignEach (.Name x p :: es) X.env).map (·.2) = assign (.Name x p) X.env :: (assignEach es X.env).map (·.2) := by rfl) :
    PGs X (.Name x p :: es) (gsD X.K (i :: is)) := by
  refine pgs_weak (pgs_cons h t hs) fun vs σ H Q ⟨B, ρ, ds, c, r, ρ', e, k⟩ => ?_
  cases ds with
  | nil => simp only [bndS, reduceCtorEq] at e
  | cons d ds =>
    simp only [Reps] at r
    simp only [bndS] at e
    obtain ⟨v, ws, rfl, r1, r2⟩ := r
    have st := c.set i r1
    refine ⟨v, ws, rfl, B, _, ds, st.cf, r2, ρ', e, fun σ' B' H' s2 hl hj hr => ?_⟩
    refine k σ' B' H' (st.trans s2) (by rw [hl, List.length_set]) (fun j z => ?_) (fun j z => ?_)
    · rw [List.mem_cons, not_or] at z
      rw [hj j z.2, List.getElem?_set_ne (Ne.symm z.1)]
    · rw [List.mem_cons, not_or] at z
      rw [hr j z.2, Rho.get_set_ne (Ne.symm z.1)]
def tupOf : D → Option (List D)
  | .tup ds => some ds
  | _ => none
def bndT (is : List Nat) (d : D) : M Unit := fun ρ => match tupOf d with
  | some ds => bndS is ds ρ
  | none => .no
theorem bndT_ok {is : List Nat} {d : D} {ρ ρ' : Rho} (e : bndT is d ρ = .ok () ρ') : ∃ ds, d = .tup ds ∧ bndS is ds ρ = .ok () ρ' := by
  unfold bndT at e
  cases d <;> simp only [tupOf, reduceCtorEq] at e
  exact ⟨_, rfl, e⟩
theorem bndS_len : ∀ {is : List Nat} {ds : List D} {ρ ρ' : Rho}, bndS is ds ρ = .ok () ρ' → ds.length = is.length
  | [], [], _, _, _ => rfl
  | [], _ :: _, _, _, e => by simp only [bndS, reduceCtorEq] at e
  | _ :: _, [], _, _, e => by simp only [bndS, reduceCtorEq] at e
  | i :: is, d :: ds, ρ, ρ', e => by
    simp only [bndS] at e
    rw [List.length_cons, List.length_cons, bndS_len (is := is) e]
theorem gd_tup {es : List Expr} {k : Nat} {is : List Nat} (hc : X.calm = true) (h : PGs X es (gsD X.K is)) (hn : (assignEach es X.env).length = is.length := by rfl) (hst : (assignEach es X.env).findIdx? (·.1) = none := by rfl) :
    PG X (.Tuple es k pos) (gD X.K is (bndT is)) := by
  refine pg_weak (pg_tup hc h hn hst) fun v σ H Q ⟨B, ρ, d, c, r, ρ', e, kk⟩ => ?_
  obtain ⟨ds, rfl, e⟩ := bndT_ok e
  simp only [Rep] at r
  obtain ⟨a, xs, rfl, h1, h2⟩ := r
  exact ⟨a, xs, rfl, Same.sqt c.bh h1, by rw [← h2.length]; exact bndS_len e, B, ρ, _, c, h2, ρ', e, kk⟩
variable {E : WX} {e : Expr} {f : M D}
def asgS (bnd : D → M Unit) (f : M D) : M Out := f >>= fun d => bnd d >>= fun _ => M.ret .nx
theorem sd_asg {ts : List Nat} {tg : Expr} {bnd : D → M Unit} (hg : PG X tg (gD X.K ts bnd)) (he : PE X e (tD X.K E f)) (hx : ∀ d ρ x ρ', bnd d ρ ≠ .ex x ρ') (hs : swapsWithSole [tg] e pos.line X.env = pure false := by rfl) (hw : swappedStores [tg] e X.env = pure none := by rfl)
    (h1 : (assignEach [tg] X.env).map (·.2) = [assign tg X.env] := by rfl) : PS X (.Assign [tg] e pos) (tS X.K E (asgS bnd f)) := by
  refine ps_weak (ps_asg he hg hs hw h1) fun Dn σ H ⟨B, ρ, c, h⟩ => ⟨B, ρ, c, h.seq.imp ?_⟩
  rintro d ρ' v B' H1 - - - ⟨d, B1, ρ1, st1, rv, h1⟩
  cases e1 : bnd d ρ1 with
  | no =>
    rw [bnd_no e1] at h1
    exact h1.elim
  | ex x ρ2 => exact absurd e1 (hx d ρ1 x ρ2)
  | ok u ρ2 =>
    rw [bnd_ok e1] at h1
    exact ⟨B1, ρ1, d, st1.cf, rv, ρ2, e1, fun σ' B' H' s2 _ _ _ => h1 _ _ _ (st1.trans s2)⟩
theorem bndS_noex : ∀ {is : List Nat} {ds : List D} {ρ : Rho} {x : Xn} {ρ' : Rho}, bndS is ds ρ ≠ .ex x ρ'
  | [], [], _, _, _ => by simp only [bndS, ne_eq, reduceCtorEq, not_false_eq_true]
  | i :: is, d :: ds, ρ, x, ρ' => by
    simp only [bndS]
    exact bndS_noex
  | _ :: _, [], _, _, _ => by simp only [bndS, ne_eq, reduceCtorEq, not_false_eq_true]
  | [], _ :: _, _, _, _ => by simp only [bndS, ne_eq, reduceCtorEq, not_false_eq_true]
theorem bndT_noex {is : List Nat} : ∀ d ρ x ρ', bndT is d ρ ≠ .ex x ρ' := fun d ρ x ρ' => by
  unfold bndT
  split
  · exact bndS_noex
  · simp only [ne_eq, reduceCtorEq, not_false_eq_true]
theorem bndN_noex {i : Nat} : ∀ d ρ x ρ', bndN i d ρ ≠ .ex x ρ' := fun d ρ x ρ' => by simp only [bndN, ne_eq, reduceCtorEq, not_false_eq_true]
end
structure Yields (K : PySem.W.Frag) (B : Fz) (J : It) (ds : List D) : Prop where
  stop : ∀ H, Same B.h H → J.stop ds.length H
  go : ∀ i H, i < ds.length → Same B.h H → J.go i H
  yld : ∀ i d H x H', ds[i]? = some d → Same B.h H → J.yld i H x H' → (H' = H ∧ Rep K B d x) ∨ (∃ p o, H p = none ∧ H' = upd H p o ∧ Rep K (Fz.upd B p o) d x) ∨
    (H' = H ∧ ∃ q us es, x = .ref q ∧ H q = some (.tup us) ∧ d = .tup es ∧ ∀ B', Reps K B' es us)
/-- a tuple that stands there is frozen -/
theorem Cf.tupAt {K : PySem.W.Frag} {σ : L2.St} {B : Fz} {H : Hp} {ρ : Rho} (c : Cf K B H σ ρ) {q : Addr} {us : List V} (h : H q = some (.tup us)) : ∃ B2, Step K σ B H ρ σ B2 H ρ ∧ B2 q = some (.tup us) := by
  cases e : B q with
  | some o =>
    have := c.bh q o e
    rw [h] at this
    cases this
    exact ⟨B, Step.refl c, e⟩
  | none =>
    have sB : FSame B (Fz.upd B q (.tup us)) := FSame.upd e
    have no : ∀ i, ¬ OwnAt σ B ρ i q := fun i z => by
      cases i with
      | s i =>
        obtain ⟨⟨o, z1⟩, z2⟩ := z
        obtain ⟨p, u, e1, _, k1, r1, _⟩ := c.own z1
        rw [z2] at e1
        cases e1
        exact r1.noTp k1 ⟨us, h⟩
      | c n =>
        obtain ⟨⟨o, z1⟩, z2⟩ := z
        obtain ⟨a', u, g1, _, g3, g4⟩ := c.cl.at_ n o z1
        rw [z2] at g1
        cases g1
        exact g4.noTp g3 ⟨us, h⟩
    refine ⟨Fz.upd B q (.tup us), ⟨⟨upd_frozen c.bh h, c.len, fun j s z => ?_, c.sep, c.cl.upd e fun n o z1 z2 => no (.c n) ⟨⟨o, z1⟩, z2⟩⟩, sB, fun b w z _ => z, fun b z => z, fun b z n => ?_, fun b z => .inl z⟩, Fz.upd_same⟩
    · have z0 := c.at_ j s z
      cases s with
      | none => trivial
      | some s =>
        cases s with
        | val d =>
          obtain ⟨x, h1, h2⟩ := z0
          exact ⟨x, h1, h2.mono sB⟩
        | own o =>
          obtain ⟨p', u', e1, b1, k1, r1, oa1⟩ := c.own z
          have np : p' ≠ q := fun y => by
            subst y
            exact no _ oa1
          exact ⟨p', u', by rw [e1]; rfl, by rw [Fz.upd_ne np]; exact b1, k1, r1.mono sB⟩
    · by_cases hb : b = q
      · subst hb
        exact .inr (.inr ⟨us, h⟩)
      · rw [Fz.upd_ne hb] at z
        exact absurd n z
theorem FSame.upw {B1 B : Fz} (sB : FSame B1 B) (p : Addr) (o : HO) : FSame (Fz.upd B1 p o) (Fz.upd B p o) := by
  refine ⟨fun b w q => ?_, sB.π⟩
  have q : (Fz.upd B1 p o) b = some w := q
  show (Fz.upd B p o) b = some w
  by_cases hb : b = p
  · subst hb
    rw [Fz.upd_same] at q ⊢
    exact q
  · rw [Fz.upd_ne hb] at q ⊢
    exact sB.h b w q
theorem Yields.item0 {K : PySem.W.Frag} {σ : L2.St} {B B1 : Fz} {H : Hp} {ρ : Rho} {J : It} {ds : List D} (ys : Yields K B1 J ds) (c : Cf K B H σ ρ) (sB : FSame B1 B) {i : Nat} {d : D} {x : V} {H2 : Hp} (hd : ds[i]? = some d) (hy : J.yld i H x H2) : ∃ B2, Step K σ B H ρ σ B2 H2 ρ ∧ Rep K B2 d x := by
  rcases ys.yld i _ H x H2 hd (sB.h.trans c.bh) hy with ⟨rfl, r⟩ | ⟨p, o, hp, rfl, r⟩ | ⟨rfl, q, us, es, rfl, hq, rfl, r⟩
  · exact ⟨B, Step.refl c, r.mono sB⟩
  · exact ⟨Fz.upd B p o, c.laid hp o, r.mono (sB.upw p o)⟩
  · obtain ⟨B2, st, hb⟩ := c.tupAt hq
    refine ⟨B2, st, ?_⟩
    simp only [Rep]
    exact ⟨q, us, rfl, hb, r B2⟩
def RY (K : PySem.W.Frag) : Rl (List D) It := fun _ _ B _ _ ds J => Yields K B J ds
instance (K : PySem.W.Frag) : RlM (RY K) := ⟨fun _ h => h⟩
abbrev tI (K : PySem.W.Frag) (E : WX) (f : M (List D)) : TI := tR K E (RY K) f
section
variable {K : PySem.W.Frag} {B : Fz}
theorem yields_list {a : Addr} {xs : List V} {ds : List D} (h : B a = some (.lst xs)) (r : Reps K B ds xs) : Yields K B (Itl K a) ds where
  stop := fun H s => ⟨xs, SqL.of (s _ _ h), Nat.le_of_eq r.length.symm⟩
  go := fun i H hi s => by
    rw [r.length] at hi
    exact ⟨xs, xs[i], SqL.of (s _ _ h), List.getElem?_eq_getElem hi⟩
  yld := fun i d H x H' e s ⟨e1, e2⟩ => by
    obtain ⟨v, e3, rv⟩ := r.get e
    rw [e2 xs (SqL.of (s _ _ h))] at e3
    cases e3
    exact .inl ⟨e1, rv⟩
theorem yields_tup {a : Addr} {xs : List V} {ds : List D} (h : B a = some (.tup xs)) (r : Reps K B ds xs) : Yields K B (Itt K a) ds where
  stop := fun H s => ⟨xs, Same.sqt s h, Nat.le_of_eq r.length.symm⟩
  go := fun i H hi s => by
    rw [r.length] at hi
    exact ⟨xs, xs[i], Same.sqt s h, List.getElem?_eq_getElem hi⟩
  yld := fun i d H x H' e s ⟨e1, e2⟩ => by
    obtain ⟨v, e3, rv⟩ := r.get e
    rw [e2 xs (Same.sqt s h)] at e3
    cases e3
    exact .inl ⟨e1, rv⟩
def rangeL (lo : Int) (n : Nat) : List D := (List.range n).map fun k => .int (lo + (k : Nat))
theorem yields_range {lo : Int} {n : Nat} : Yields K B (Itr lo n) (rangeL lo n) where
  stop := fun H s => by
    show n ≤ _
    simp [rangeL]
  go := fun i H hi s => by
    show i < n
    simpa [rangeL] using hi
  yld := fun i d H x H' e s ⟨e1, e2⟩ => by
    refine .inl ⟨e1, ?_⟩
    subst e2
    unfold rangeL at e
    rw [List.getElem?_map] at e
    cases q : (List.range n)[i]? with
    | none =>
      rw [q] at e
      cases e
    | some k =>
      rw [q] at e
      have hk := List.getElem?_range (show i < n by
        have := (List.getElem?_eq_some_iff.mp q).1
        simpa using this)
      rw [q] at hk
      cases hk
      cases e
      simp only [Rep]
def signsL (z : Str) : List D := z.cps.toList.map fun c => .str ⟨#[c]⟩
theorem yields_str {z : Str} : Yields K B (Its z) (signsL z) where
  stop := fun H s => by
    show z.cps.size ≤ _
    simp [signsL]
  go := fun i H hi s => by
    show i < z.cps.size
    simpa [signsL] using hi
  yld := fun i d H x H' e s ⟨e1, c, e2, e3⟩ => by
    refine .inl ⟨e1, ?_⟩
    subst e3
    unfold signsL at e
    rw [List.getElem?_map, Array.getElem?_toList, e2] at e
    cases e
    simp only [Rep]
end
section
variable {X : Cx} {E : WX} {tg e : Expr} {f : M D}
theorem pi_weak {w w' : TI} (h : PI X tg e w) (k : ∀ σ H R, w' σ H R → w σ H R) : PI X tg e w' := ⟨fun pins s σ H R I q => h.run pins s σ H R I (k σ H R q)⟩
theorem pi_or {w w' : TI} (h : PI X tg e w) (h' : PI X tg e w') : PI X tg e (fun σ H R => w σ H R ∨ w' σ H R) := ⟨fun pins s σ H R I q => q.elim (h.run pins s σ H R I) (h'.run pins s σ H R I)⟩
def itemsD : D → Option (List D)
  | .lst ds => some ds
  | .tup ds => some ds
  | .str z => some (signsL z)
  | _ => none
def seqI (f : M D) : M (List D) := f >>= fun d => M.opt (itemsD d)
/-- the part is known: what is left -/
theorem At.step {α γ δ : Type} {K : PySem.W.Frag} {E : WX} {R' : Rl γ δ} {σ : L2.St} {B : Fz} {H : Hp} {ρ ρ1 : Rho} {f : M α} {g : α → M γ} {a : α} {Q : δ → Hp → Prop} (h : At K E R' σ B H ρ Q ((f >>= g) ρ)) (e : f ρ = .ok a ρ1) : At K E R' σ B H ρ Q (g a ρ1) := by
  rw [bnd_ok e] at h
  exact h
theorem At.optS {γ δ : Type} {K : PySem.W.Frag} {E : WX} {R' : Rl γ δ} {σ : L2.St} {B : Fz} {H : Hp} {ρ ρ1 : Rho} {Q : δ → Hp → Prop} {o : Option γ} (h : At K E R' σ B H ρ Q (M.opt o ρ1)) : ∃ a, o = some a ∧ ∀ x B' H', Step K σ B H ρ σ B' H' ρ1 → R' H σ B' H' ρ1 a x → Q x H' := by
  cases o with
  | none => exact h.elim
  | some a => exact ⟨a, rfl, h⟩
theorem pi_seq (h : PE X e (tD X.K E f)) : PI X tg e (tI X.K E (seqI f)) := by
  refine pi_weak (pi_or (pi_list h) (pi_or (pi_tup h) (pi_str h))) ?_
  rintro σ H R ⟨B, ρ, c, h⟩
  cases e0 : f ρ with
  | no =>
    have hs := h.seq (R := RD X.K)
    rw [e0] at hs
    exact hs.elim
  | ex x ρ1 =>
    have hs := h.seq (R := RD X.K)
    rw [e0] at hs
    exact .inl ⟨B, ρ, c, by rw [e0]; exact hs⟩
  | ok d ρ1 =>
    obtain ⟨es, ee, k⟩ := (h.step e0).optS
    cases d <;> simp only [itemsD, reduceCtorEq] at ee
    · cases ee
      refine .inr (.inr ⟨B, ρ, c, ?_⟩)
      rw [e0]
      exact fun x B1 H1 st1 rx => ⟨_, rep_str rx, k _ _ _ st1 yields_str⟩
    · cases ee
      refine .inr (.inl ⟨B, ρ, c, ?_⟩)
      rw [e0]
      intro x B1 H1 st1 rx
      have rx : Rep X.K B1 (.tup es) x := rx
      simp only [Rep] at rx
      obtain ⟨a, xs, rfl, h1, h2⟩ := rx
      exact ⟨a, rfl, ⟨xs, Same.sqt st1.cf.bh h1⟩, k _ _ _ st1 (yields_tup h1 h2)⟩
    · cases ee
      refine .inl ⟨B, ρ, c, ?_⟩
      rw [e0]
      intro x B1 H1 st1 rx
      have rx : Rep X.K B1 (.lst es) x := rx
      simp only [Rep] at rx
      obtain ⟨a, xs, rfl, h1, h2⟩ := rx
      exact ⟨a, rfl, ⟨xs, SqL.of (st1.cf.bh _ _ h1)⟩, k _ _ _ st1 (yields_list h1 h2)⟩
def inR (j : Int) : Bool := decide (-(2 ^ 62) ≤ j) && decide (j < 2 ^ 62)
def rng1 : D → Option (List D)
  | .int j => if inR j then some (rangeL 0 j.toNat) else none
  | _ => none
def rng2 : D → D → Option (List D)
  | .int i, .int j => if inR i && inR j then some (rangeL i (j - i).toNat) else none
  | _, _ => none
def rngI (f : M D) : M (List D) := f >>= fun d => M.opt (rng1 d)
def rngI2 (f g : M D) : M (List D) := f >>= fun d => g >>= fun e => M.opt (rng2 d e)
theorem inR_ok {j : Int} (h : inR j = true) : -(2 ^ 62) ≤ j ∧ j < 2 ^ 62 := by
  unfold inR at h
  rw [Bool.and_eq_true, decide_eq_true_eq, decide_eq_true_eq] at h
  exact h
theorem pi_rng1 {a : Expr} {p pos : Pos} (hg : Gl X "range") (hm : X.mg "range" = none) (ha : PE X a (tD X.K E f)) (hs : starEach [a] X.env = [(false, eval a X.env)] := by rfl) (hs0 : starEach [a] X.env = (false, eval a X.env) :: starEach [] X.env := by rfl) :
    PI X tg (.Call (.Name "range" p) [a] [] pos) (tI X.K E (rngI f)) := by
  refine pi_weak (pi_range1 hg hm (pa_cons ha pa_nil hs0) hs) ?_
  rintro σ H R ⟨B, ρ, c, h⟩
  refine ⟨B, ρ, c, h.seq.imp ?_⟩
  rintro d ρ' x B' H1 - - - ⟨d, B1, ρ1, st1, rx, h1⟩
  obtain ⟨es, ee, k⟩ := h1.opt
  cases d <;> simp only [rng1, reduceCtorEq] at ee
  split at ee
  · rename_i hz
    cases ee
    obtain ⟨h1, h2⟩ := inR_ok hz
    refine ⟨_, by rw [rep_int rx], h1, h2, k _ _ _ (Step.refl st1.cf) yields_range⟩
  · cases ee
end
def loopS (bnd : D → M Unit) (body : M Out) : List D → M Out
  | [] => M.ret .nx
  | d :: ds => bnd d >>= fun _ => body >>= fun o => match o with
    | .nx => loopS bnd body ds
    | .ct => loopS bnd body ds
    | .bk => M.ret .nx
    | .rt d => M.ret (.rt d)
    | .rn i => M.ret (.rn i)
def forS (src : M (List D)) (bnd : D → M Unit) (body : M Out) : M Out := src >>= fun ds => loopS bnd body ds
section
variable {X : Cx} {E : WX} {tg iter : Expr} {body : List Stmt} {pos : Pos} {src : M (List D)} {bnd : D → M Unit} {fb : M Out} {ts : List Nat}
theorem AtS.step {α : Type} {K : PySem.W.Frag} {E : WX} {σ : L2.St} {B : Fz} {H : Hp} {ρ ρ1 : Rho} {Dn : Ends} {f : M α} {g : α → M Out} {a : α} (h : AtS K E σ B H ρ Dn ((f >>= g) ρ)) (e : f ρ = .ok a ρ1) : AtS K E σ B H ρ Dn (g a ρ1) := by
  rw [bnd_ok e] at h
  exact h
theorem sd_for (hp : PassesOwn (model X.prog X.w) X.A X.env X.xe) (hc : X.calm = true) (hi : PI X tg iter (tI X.K E src)) (hg : PG X tg (gD X.K ts bnd)) (hx : ∀ d ρ x ρ', bnd d ρ ≠ .ex x ρ') (hb : PSs X body (tS X.K E fb))
    (hs : ∀ x, foldedSetIterable iter X.env x = pure x := by intro _; rfl) : PS X (.For tg iter body [] pos) (tS X.K E (forS src bnd fb)) := by
  refine ps_weak (ps_for hp hc hi hg hb hs) fun Dn σ0 H0 ⟨B0, ρ0, c0, h0⟩ => ⟨B0, ρ0, c0, h0.seq.imp ?_⟩
  rintro d ρ' J B' H1 - - - ⟨ds, B1, ρ1, st1, ys, h1⟩
  have ys : Yields X.K B1 J ds := ys
  refine ⟨fun i m σ H => m = ds.length - i ∧ i ≤ ds.length ∧ ∃ B ρ, Cf X.K B H σ ρ ∧ FSame B1 B ∧ AtS X.K E σ B H ρ Dn (loopS bnd fb (ds.drop i) ρ), ⟨ds.length, by simp, Nat.zero_le _, B1, ρ1, st1.cf, FSame.refl _, h1.from st1⟩, ?_⟩
  rintro i m σ H ⟨rfl, hi, B, ρ, c, sB, h⟩
  by_cases hlt : i < ds.length
  · refine .inr ⟨ys.go i H hlt (sB.h.trans c.bh), fun σ' H' => ∃ B' ρ', Cf X.K B' H' σ' ρ' ∧ FSame B1 B' ∧ AtS X.K E σ' B' H' ρ' Dn (loopS bnd fb (ds.drop (i + 1)) ρ'), fun σ' H' ⟨B', ρ', z⟩ => ⟨ds.length - (i + 1), by omega, rfl, hlt, B', ρ', z⟩, fun x H2 hy => ?_⟩
    rw [List.drop_eq_getElem_cons hlt] at h
    have hd : ds[i]? = some ds[i] := List.getElem?_eq_getElem hlt
    -- the item
    obtain ⟨B2, st2, rx⟩ : ∃ B2, Step X.K σ B H ρ σ B2 H2 ρ ∧ Rep X.K B2 ds[i] x := ys.item0 c sB hd hy
    cases e1 : bnd ds[i] ρ with
    | no =>
      simp only [loopS] at h
      rw [bnd_no e1] at h
      exact h.elim
    | ex x ρ2 => exact absurd e1 (hx _ ρ x ρ2)
    | ok u ρ2 =>
      simp only [loopS] at h
      rw [bnd_ok e1] at h
      refine ⟨B2, ρ, ds[i], st2.cf, rx, ρ2, e1, fun σ3 B3 H3 st3 _ _ _ => ?_⟩
      have st := st2.trans st3
      refine ⟨B3, ρ2, st.cf, ?_⟩
      have hh := h.from st
      have sB3 : FSame B1 B3 := sB.trans st.bb
      cases eb : fb ρ2 with
      | no =>
        rw [bnd_no eb] at hh
        exact hh.elim
      | ex x ρ4 =>
        rw [bnd_ex eb] at hh
        exact hh
      | ok o ρ4 =>
        rw [bnd_ok eb] at hh
        cases o with
        | nx => exact fun σ' B' H' s4 => ⟨B', ρ4, s4.cf, sB3.trans s4.bb, hh.from s4⟩
        | ct => exact fun σ' B' H' s4 => ⟨B', ρ4, s4.cf, sB3.trans s4.bb, hh.from s4⟩
        | bk => exact hh
        | rt d => exact hh
        | rn i => exact hh
  · have e : i = ds.length := by omega
    subst e
    rw [List.drop_length] at h
    exact .inl ⟨ys.stop H (sB.h.trans c.bh), h _ _ _ (Step.refl c)⟩
end
end Nc
namespace Nc
open PySem PySem.Spec PyProof.Rows L2
def wipeR (ρ : Rho) : List Nat → Rho
  | [] => ρ
  | v :: vs => (wipeR ρ vs).set v none
theorem wipeR_length (ρ : Rho) : ∀ vs : List Nat, (wipeR ρ vs).length = ρ.length
  | [] => rfl
  | v :: vs => by unfold wipeR; rw [Rho.length_set, wipeR_length ρ vs]
theorem wipe_at {σ : L2.St} {j : Nat} : ∀ {vs : List Nat}, j ∉ vs → (wipe σ vs)[j]? = σ[j]?
  | [], _ => rfl
  | v :: vs, h => by
    rw [List.mem_cons, not_or] at h
    unfold wipe
    rw [List.getElem?_set_ne (Ne.symm h.1), wipe_at h.2]
theorem wipe_in {σ : L2.St} {j : Nat} : ∀ {vs : List Nat}, j ∈ vs → j < σ.length → (wipe σ vs)[j]? = some none
  | v :: vs, h, l => by
    unfold wipe
    by_cases e : v = j
    · subst e
      rw [List.getElem?_set_self (by rw [wipe_length]; exact l)]
    · rw [List.getElem?_set_ne e]
      exact wipe_in (by rcases List.mem_cons.mp h with z | z; exact absurd z.symm e; exact z) l
theorem wipeR_g (ρ : Rho) : ∀ vs : List Nat, (wipeR ρ vs).g = ρ.g
  | [] => rfl
  | v :: vs => wipeR_g ρ vs
theorem Rho.get_none {ρ : Rho} {i : Nat} (h : ρ.length ≤ i) : ρ[i]? = none := List.getElem?_eq_none h
theorem wipeR_at {σ : Rho} {j : Nat} : ∀ {vs : List Nat}, j ∉ vs → (wipeR σ vs)[j]? = σ[j]?
  | [], _ => rfl
  | v :: vs, h => by
    rw [List.mem_cons, not_or] at h
    unfold wipeR
    rw [Rho.get_set_ne (Ne.symm h.1), wipeR_at h.2]
theorem wipeR_in {σ : Rho} {j : Nat} : ∀ {vs : List Nat}, j ∈ vs → j < σ.length → (wipeR σ vs)[j]? = some none
  | v :: vs, h, l => by
    unfold wipeR
    by_cases e : v = j
    · subst e
      rw [Rho.get_set_self (by rw [wipeR_length]; exact l)]
    · rw [Rho.get_set_ne e]
      exact wipeR_in (by rcases List.mem_cons.mp h with z | z; exact absurd z.symm e; exact z) l
theorem wipe_same {σ σ' : L2.St} {vs ts : List Nat} (hts : ∀ i ∈ ts, i ∈ vs) (hl : σ'.length = σ.length) (h : ∀ j, j ∉ ts → σ'[j]? = (wipe σ vs)[j]?) : wipe σ' vs = wipe σ vs := by
  refine List.ext_getElem? fun j => ?_
  by_cases hj : j ∈ vs
  · by_cases l : j < σ.length
    · rw [wipe_in hj (by rw [hl]; exact l), wipe_in hj l]
    · rw [List.getElem?_eq_none (by rw [wipe_length]; omega), List.getElem?_eq_none (by rw [wipe_length]; omega)]
  · rw [wipe_at hj, h j fun z => hj (hts j z)]
/-- behind a turn: the block's own slots as they were outside -/
def mixR (ρ ρ' : Rho) (vs : List Nat) : Rho := ⟨ρ'.l.mapIdx fun i s => if i ∈ vs then (ρ[i]?).getD none else s, ρ'.g⟩
theorem mixR_length (ρ ρ' : Rho) (vs : List Nat) : (mixR ρ ρ' vs).length = ρ'.length := by unfold mixR Rho.length; rw [List.length_mapIdx]
theorem mixR_at {ρ ρ' : Rho} {vs : List Nat} (hl : ρ'.length = ρ.length) (j : Nat) : (mixR ρ ρ' vs)[j]? = if j ∈ vs then ρ[j]? else ρ'[j]? := by
  show (ρ'.l.mapIdx _)[j]? = _
  rw [List.getElem?_mapIdx]
  have hl : ρ'.l.length = ρ.l.length := hl
  rw [Rho.get_l, Rho.get_l]
  by_cases l : j < ρ.l.length
  · rw [List.getElem?_eq_getElem (show j < ρ'.l.length by omega), List.getElem?_eq_getElem l]
    by_cases h : j ∈ vs
    · simp [h]
    · simp [h]
  · rw [List.getElem?_eq_none (show ρ'.l.length ≤ j by omega), List.getElem?_eq_none (show ρ.l.length ≤ j by omega)]
    simp
section
variable {K : PySem.W.Frag} {σ σ3 : L2.St} {B B3 : Fz} {H H3 : Hp} {ρ ρ3 : Rho} {vs : List Nat}
theorem own_wipe {p : Addr} {i : Ix} (h : OwnAt (wipe σ vs) B (wipeR ρ vs) i p) (hl : σ.length = ρ.length) : OwnAt σ B ρ i p ∧ ∀ k ∈ vs, i ≠ .s k := by
  cases i with
  | c n =>
    obtain ⟨⟨o, e⟩, e2⟩ := h
    rw [wipeR_g] at e
    exact ⟨⟨⟨o, e⟩, e2⟩, fun k _ z => by cases z⟩
  | s i =>
    obtain ⟨⟨o, e⟩, e2⟩ := h
    by_cases hi : i ∈ vs
    · by_cases l : i < ρ.length
      · rw [wipeR_in hi l] at e
        cases e
      · rw [Rho.get_none (by rw [wipeR_length]; omega)] at e
        cases e
    · rw [wipeR_at hi] at e
      rw [wipe_at hi] at e2
      exact ⟨⟨⟨o, e⟩, e2⟩, fun k hk z => hi (by injection z with z; rw [z]; exact hk)⟩
/-- into the block -/
theorem Cf.wiped (c : Cf K B H σ ρ) : Cf K B H (wipe σ vs) (wipeR ρ vs) where
  bh := c.bh
  len := by rw [wipe_length, wipeR_length]; exact c.len
  at_ := fun i s e => by
    by_cases hi : i ∈ vs
    · by_cases l : i < ρ.length
      · rw [wipeR_in hi l] at e
        cases e
        trivial
      · rw [Rho.get_none (by rw [wipeR_length]; omega)] at e
        cases e
    · rw [wipeR_at hi] at e
      rw [wipe_at hi]
      exact c.at_ i s e
  sep := fun i j p h1 h2 => c.sep i j p (own_wipe h1 c.len).1 (own_wipe h2 c.len).1
  cl := by rw [wipeR_g]; exact c.cl
/-- out of the block -/
theorem Step.unwiped (c : Cf K B H σ ρ) (st : Step K (wipe σ vs) B H (wipeR ρ vs) σ3 B3 H3 ρ3) (hw : wipe σ3 vs = wipe σ vs) : Step K σ B H ρ σ B3 H3 (mixR ρ ρ3 vs) := by
  have l3 : σ3.length = σ.length := by
    have := congrArg List.length hw
    rw [wipe_length, wipe_length] at this
    exact this
  have lr : ρ3.length = ρ.length := by rw [← st.cf.len, l3, c.len]
  have sub : ∀ b, OwnA (wipe σ vs) B (wipeR ρ vs) b → OwnA σ B ρ b := fun b ⟨i, z⟩ => ⟨i, (own_wipe z c.len).1⟩
  have at3 : ∀ j, j ∉ vs → σ3[j]? = σ[j]? := fun j hj => by
    have := congrArg (fun l => l[j]?) hw
    simp only [wipe_at hj] at this
    exact this
  -- an own object that the block did not see
  have hid : ∀ i p, i ∈ vs → OwnAt σ B ρ (.s i) p → ¬ OwnA (wipe σ vs) B (wipeR ρ vs) p := fun i p hi z ⟨j, y⟩ => by
    obtain ⟨y, hj⟩ := own_wipe y c.len
    exact hj i hi (c.sep j (.s i) p y z)
  have own3 : ∀ i p, OwnAt σ B3 (mixR ρ ρ3 vs) i p → (∃ k, k ∈ vs ∧ i = .s k ∧ OwnAt σ B ρ i p) ∨ OwnAt σ3 B3 ρ3 i p := fun i p w => by
    cases i with
    | c n => exact .inr w
    | s i =>
      obtain ⟨⟨o, e⟩, e2⟩ := w
      rw [mixR_at lr] at e
      by_cases hi : i ∈ vs
      · rw [if_pos hi] at e
        exact .inl ⟨i, hi, rfl, ⟨o, e⟩, e2⟩
      · rw [if_neg hi] at e
        rw [← at3 i hi] at e2
        exact .inr ⟨⟨o, e⟩, e2⟩
  refine ⟨⟨st.cf.bh, by rw [mixR_length, lr, c.len], fun i s e => ?_, fun i j p h1 h2 => ?_, st.cf.cl⟩, st.bb, fun b o e n => st.keep b o e fun z => n (sub b z), st.there, fun b q n => (st.new b q n).imp_right (Or.imp_left (sub b)), fun b ⟨i, z⟩ => ?_⟩
  · rw [mixR_at lr] at e
    by_cases hi : i ∈ vs
    · rw [if_pos hi] at e
      have q := c.at_ i s e
      cases s with
      | none => trivial
      | some s =>
        cases s with
        | val d =>
          obtain ⟨x, h1, h2⟩ := q
          exact ⟨x, h1, h2.mono st.bb⟩
        | own o =>
          obtain ⟨p, u, e1, b1, k1, r1, oa⟩ := c.own e
          have no := hid i p hi oa
          refine ⟨p, u, by rw [e1]; rfl, ?_, st.keep p u k1 no, r1.mono st.bb⟩
          refine Classical.byContradiction fun y => ?_
          rcases st.new p y b1 with z | z | z
          · rw [k1] at z
            cases z
          · exact no z
          · exact r1.noTp k1 z
    · rw [if_neg hi] at e
      have q := st.cf.at_ i s e
      rw [at3 i hi] at q
      exact q
  · rcases own3 i p h1 with ⟨k1, m1, rfl, y1⟩ | y1
    · rcases own3 j p h2 with ⟨k2, m2, rfl, y2⟩ | y2
      · exact c.sep _ _ p y1 y2
      · rcases st.own p ⟨j, y2⟩ with z | z
        · exact absurd z (hid k1 p m1 y1)
        · obtain ⟨_, q⟩ := y1.not_frozen c
          exact absurd z q
    · rcases own3 j p h2 with ⟨k2, m2, rfl, y2⟩ | y2
      · rcases st.own p ⟨i, y1⟩ with z | z
        · exact absurd z (hid k2 p m2 y2)
        · obtain ⟨_, q⟩ := y2.not_frozen c
          exact absurd z q
      · exact st.cf.sep i j p y1 y2
  · rcases own3 i b z with ⟨_, _, rfl, y⟩ | y
    · exact .inl ⟨_, y⟩
    · rcases st.own b ⟨i, y⟩ with q | q
      · exact .inl (sub b q)
      · exact .inr q
/-- an object that no slot knows is changed -/
theorem Step.poke {K : PySem.W.Frag} {σ : L2.St} {B : Fz} {H : Hp} {ρ : Rho} (c : Cf K B H σ ρ) {p : Addr} (hB : B p = Option.none) (no : ¬ OwnA σ B ρ p) (u : HO) : Cf K B (upd H p u) σ ρ := by
  refine ⟨fun b w q => ?_, c.len, fun i s e => ?_, c.sep, c.cl.put' fun n o h1 z => no ⟨.c n, ⟨o, h1⟩, z⟩⟩
  · rw [upd_ne (ne_of_none q hB)]
    exact c.bh b w q
  · have q := c.at_ i s e
    cases s with
    | none => trivial
    | some s =>
      cases s with
      | val d => exact q
      | own o =>
        obtain ⟨p', u', e1, b1, k1, r1, oa⟩ := c.own e
        have np : p' ≠ p := fun y => by
          subst y
          exact no ⟨_, oa⟩
        exact ⟨p', u', by rw [e1]; rfl, b1, by rw [upd_ne np]; exact k1, r1⟩
end
theorem Step.pokeS {K : PySem.W.Frag} {σ σ1 : L2.St} {B B1 : Fz} {H H1 : Hp} {ρ ρ1 : Rho} (st : Step K σ B H ρ σ1 B1 H1 ρ1) {p : Addr} (hp : H p = Option.none) (hB : B1 p = Option.none) (no : ¬ OwnA σ1 B1 ρ1 p) (u : HO) : Step K σ B H ρ σ1 B1 (upd H1 p u) ρ1 where
  cf := Step.poke st.cf hB no u
  bb := st.bb
  keep := fun b o e n => by
    rw [upd_ne (ne_of_none e hp)]
    exact st.keep b o e n
  there := fun b e => by
    by_cases hb : b = p
    · subst hb
      exact absurd hp e
    · rw [upd_ne hb]
      exact st.there b e
  new := st.new
  own := st.own
abbrev EN : WX := fun _ _ _ _ => False
/-- one turn of a comprehension's block -/
def turnM (bnd : D → M Unit) (tt : M Bool) (el : M D) (vs : List Nat) (d : D) : M (Option D) := fun ρ =>
  match (bnd d >>= fun _ => tt >>= fun b => if b then el >>= fun z => M.ret (some z) else M.ret none) (wipeR ρ vs) with
  | .ok r ρ' => .ok r (mixR ρ ρ' vs)
  | _ => .no
def addO (acc : List D) : Option D → List D
  | some z => acc ++ [z]
  | none => acc
def M.bad {α : Type} : M α := fun _ => .no
def lcLoop (bnd : D → M Unit) (tt : M Bool) (el : M D) (vs : List Nat) : List D → List D → M (List D)
  | [], acc => M.ret acc
  | d :: ds, acc => if acc.length < sizeLine then turnM bnd tt el vs d >>= fun r => lcLoop bnd tt el vs ds (addO acc r) else M.bad
def lcM (src : M (List D)) (bnd : D → M Unit) (tt : M Bool) (el : M D) (vs : List Nat) : M O := src >>= fun ds => lcLoop bnd tt el vs ds [] >>= fun out => M.ret (.lst out)
section
variable {K : PySem.W.Frag} {E : WX} {bnd : D → M Unit} {tt : M Bool} {el : M D} {vs ts : List Nat} {src : M (List D)}
theorem turnM_noex {d : D} {ρ : Rho} {x : Xn} {ρ' : Rho} : turnM bnd tt el vs d ρ ≠ .ex x ρ' := by
  unfold turnM
  split <;> simp only [ne_eq, reduceCtorEq, not_false_eq_true]
theorem lcLoop_noex : ∀ {ds acc : List D} {ρ : Rho} {x : Xn} {ρ' : Rho}, lcLoop bnd tt el vs ds acc ρ ≠ .ex x ρ'
  | [], acc, ρ, x, ρ' => by simp only [lcLoop, M.ret, ne_eq, reduceCtorEq, not_false_eq_true]
  | d :: ds, acc, ρ, x, ρ' => by
    simp only [lcLoop]
    by_cases hz : acc.length < sizeLine
    · rw [if_pos hz]
      cases e : turnM bnd tt el vs d ρ with
      | no => rw [bnd_no e]; simp only [ne_eq, reduceCtorEq, not_false_eq_true]
      | ex y ρ2 => exact absurd e turnM_noex
      | ok r ρ2 =>
        rw [bnd_ok e]
        exact lcLoop_noex
    · rw [if_neg hz]
      unfold M.bad
      simp only [ne_eq, reduceCtorEq, not_false_eq_true]
/-- the reading of a list comprehension -/
theorem lc_read {wi : TI} {g : TG} {t : TT} {te : TE} (hts : ∀ i ∈ ts, i ∈ vs) (hx : ∀ d ρ x ρ', bnd d ρ ≠ .ex x ρ') (ki : ∀ σ H Q, tI K E src σ H Q → wi σ H Q) (kg : ∀ v σ H Q, gD K ts bnd v σ H Q → g v σ H Q) (kt : ∀ σ H Q, tT K EN tt σ H Q → t σ H Q) (ke : ∀ σ H Q, tD K EN el σ H Q → te σ H Q) :
    ∀ σ H Q, tN K E (lcM src bnd tt el vs) σ H Q → tLc wi g t te vs σ H Q := by
  rintro σ H0 Q ⟨B0, ρ0, c0, h0⟩
  refine ki _ _ _ ⟨B0, ρ0, c0, h0.seq.imp ?_⟩
  rintro - - J - H1 - - - ⟨ds, B1, ρ1, st1, ys, h1⟩
  have ys : Yields K B1 J ds := ys
  intro L hL
  -- what holds ahead of turn i: the list so far at L, which no slot knows
  refine ⟨fun i m H => m = ds.length - i ∧ i ≤ ds.length ∧ ∃ (B : Fz) (ρ : Rho) (acc : List D) (xs : List V), Step K σ B1 H1 ρ1 σ B H ρ ∧ B L = none ∧ ¬ OwnA σ B ρ L ∧ H L = some (.lst xs) ∧ Reps K B acc xs ∧
      At K E (RN K) σ B1 H1 ρ1 Q ((lcLoop bnd tt el vs (ds.drop i) acc >>= fun out => M.ret (O.lst out)) ρ),
    ⟨ds.length, by simp, Nat.zero_le _, B1, ρ1, [], [], (Step.refl st1.cf).pokeS hL (st1.cf.unfrozen hL) (own_not_new st1.cf hL) _, st1.cf.unfrozen hL, own_not_new st1.cf hL, upd_same, Reps.nil, h1⟩, ?_⟩
  rintro i m H ⟨rfl, hi, B, ρ, acc, xs, st, nB, no, hH, ra, h⟩
  have c := st.cf
  have sB := st.bb
  by_cases hlt : i < ds.length
  · refine .inr ⟨ys.go i H hlt (sB.h.trans c.bh), fun H' => ∃ (B : Fz) (ρ : Rho) (acc : List D) (xs : List V), Step K σ B1 H1 ρ1 σ B H' ρ ∧ B L = none ∧ ¬ OwnA σ B ρ L ∧ H' L = some (.lst xs) ∧ Reps K B acc xs ∧
      At K E (RN K) σ B1 H1 ρ1 Q ((lcLoop bnd tt el vs (ds.drop (i + 1)) acc >>= fun out => M.ret (O.lst out)) ρ), fun H' z => ⟨ds.length - (i + 1), by omega, rfl, hlt, z⟩, fun x H2 hy => ?_⟩
    have hd : ds[i]? = some ds[i] := List.getElem?_eq_getElem hlt
    rw [List.drop_eq_getElem_cons hlt] at h
    simp only [lcLoop] at h
    by_cases hz : acc.length < sizeLine
    · rw [if_pos hz] at h
      -- the item
      obtain ⟨B2, st2, rx⟩ : ∃ B2, Step K σ B H ρ σ B2 H2 ρ ∧ Rep K B2 ds[i] x := ys.item0 c sB hd hy
      -- what the turn gives
      have hturn : ∃ r ρ', turnM bnd tt el vs ds[i] ρ = .ok r ρ' := by
        cases e : turnM bnd tt el vs ds[i] ρ with
        | no =>
          have e2 : (turnM bnd tt el vs ds[i] >>= fun r => lcLoop bnd tt el vs (ds.drop (i + 1)) (addO acc r)) ρ = .no := bnd_no e
          rw [bnd_no e2] at h
          exact h.elim
        | ex y ρ2 => exact absurd e turnM_noex
        | ok r ρ2 => exact ⟨r, ρ2, rfl⟩
      obtain ⟨r, ρ', er⟩ := hturn
      have h' : At K E (RN K) σ B1 H1 ρ1 Q ((lcLoop bnd tt el vs (ds.drop (i + 1)) (addO acc r) >>= fun out => M.ret (O.lst out)) ρ') := by
        have e2 : (turnM bnd tt el vs ds[i] >>= fun r => lcLoop bnd tt el vs (ds.drop (i + 1)) (addO acc r)) ρ = lcLoop bnd tt el vs (ds.drop (i + 1)) (addO acc r) ρ' := bnd_ok er
        have e3 : ((turnM bnd tt el vs ds[i] >>= fun r => lcLoop bnd tt el vs (ds.drop (i + 1)) (addO acc r)) >>= fun out => M.ret (O.lst out)) ρ = (lcLoop bnd tt el vs (ds.drop (i + 1)) (addO acc r) >>= fun out => M.ret (O.lst out)) ρ' := by
          show M.bnd _ _ ρ = M.bnd _ _ ρ'
          unfold M.bnd
          rw [e2]
        rw [e3] at h
        exact h
      clear h
      unfold turnM at er
      split at er
      · rename_i r2 ρ3 eblk
        cases er
        -- through the block
        have cw : Cf K B2 H2 (wipe σ vs) (wipeR ρ vs) := st2.cf.wiped
        have noL2 : ∀ {B3 H3 σ3 ρ3}, Step K (wipe σ vs) B2 H2 (wipeR ρ vs) σ3 B3 H3 ρ3 → wipe σ3 vs = wipe σ vs → H3 L = some (.lst xs) ∧ B3 L = none ∧ Step K σ B1 H1 ρ1 σ B3 H3 (mixR ρ ρ3 vs) ∧ ¬ OwnA σ B3 (mixR ρ ρ3 vs) L := fun {B3 H3 σ3 ρ3} s3 hw => by
          have h2L : H2 L = some (.lst xs) := st2.keep L _ hH no
          have no2 : ¬ OwnA σ B ρ L := no
          have now : ¬ OwnA (wipe σ vs) B2 (wipeR ρ vs) L := fun ⟨j, z⟩ => (st2.own L ⟨j, (own_wipe z st2.cf.len).1⟩).elim no2 fun q => by
            rw [hH] at q
            cases q
          have b2L : B2 L = none := Classical.byContradiction fun y => by
            rcases st2.new L y nB with z | z | ⟨_, z⟩
            · rw [hH] at z
              cases z
            · exact no z
            · rw [hH] at z
              cases z
          have s4 := s3.unwiped st2.cf hw
          refine ⟨s3.keep L _ h2L now, Classical.byContradiction fun y => ?_, (st.trans st2).trans s4, fun z => ?_⟩
          · rcases s3.new L y b2L with z | z | ⟨_, z⟩
            · rw [h2L] at z
              cases z
            · exact now z
            · rw [h2L] at z
              cases z
          · rcases s4.own L z with q | q
            · exact (st2.own L q).elim no fun q => by
                rw [hH] at q
                cases q
            · rw [h2L] at q
              cases q
        cases e1 : bnd ds[i] (wipeR ρ vs) with
        | no =>
          rw [bnd_no e1] at eblk
          cases eblk
        | ex y ρ4 => exact absurd e1 (hx _ _ y ρ4)
        | ok u ρ4 =>
          rw [bnd_ok e1] at eblk
          refine kg _ _ _ _ ⟨B2, wipeR ρ vs, ds[i], cw, rx, ρ4, e1, fun σ3 B3 H3 s3 hl hj _ => ?_⟩
          have hw : wipe σ3 vs = wipe σ vs := wipe_same hts (by rw [hl, wipe_length]) hj
          refine ⟨hw, kt _ _ _ ⟨B3, ρ4, s3.cf, ?_⟩⟩
          cases e2 : tt ρ4 with
          | no =>
            rw [bnd_no e2] at eblk
            cases eblk
          | ex y ρ5 =>
            rw [bnd_ex e2] at eblk
            cases eblk
          | ok b ρ5 =>
            rw [bnd_ok e2] at eblk
            intro b' B4 H4 s4 rb
            have eb : b = b' := rb
            subst eb
            have hs4 := s3.trans s4
            cases b with
            | false =>
              simp only [Bool.false_eq_true, if_false] at eblk
              cases eblk
              refine iteF ?_
              obtain ⟨q1, q2, q3, q4⟩ := noL2 hs4 hw
              exact ⟨B4, _, acc, xs, q3, q2, q4, q1, ra.mono (st2.bb.trans hs4.bb), h'⟩
            | true =>
              simp only [if_true] at eblk
              refine iteT (ke _ _ _ ⟨B4, ρ5, s4.cf, ?_⟩)
              cases e3 : el ρ5 with
              | no =>
                rw [bnd_no e3] at eblk
                cases eblk
              | ex y ρ6 =>
                rw [bnd_ex e3] at eblk
                cases eblk
              | ok z ρ6 =>
                rw [bnd_ok e3] at eblk
                cases eblk
                intro y B5 H5 s5 ry
                have ry : Rep K B5 z y := ry
                have hs5 := hs4.trans s5
                obtain ⟨q1, q2, q3, q4⟩ := noL2 hs5 hw
                have ra5 := ra.mono (st2.bb.trans hs5.bb)
                refine ⟨xs, q1, by rw [← ra.length]; exact hz, B5, _, acc ++ [z], xs ++ [y], q3.pokeS hL q2 q4 _, q2, q4, upd_same, ra5.append (Reps.cons ry Reps.nil), h'⟩
      · cases er
    · rw [if_neg hz] at h
      exact h.elim
  · have e : i = ds.length := by omega
    subst e
    rw [List.drop_length] at h
    refine .inl ⟨ys.stop H (sB.h.trans c.bh), ?_⟩
    exact h _ _ _ st ⟨L, .lst xs, rfl, hL, nB, hH, ⟨xs, rfl, ra⟩, no⟩
end
section
variable {X : Cx} {E : WX} {elt tg iter : Expr} {ifs : List Expr} {scope : Scope} {own : List (Str × Nat)} {pos : Pos} {bnd : D → M Unit} {tt : M Bool} {el : M D} {ts : List Nat} {src : M (List D)}
theorem pn_lc (hc : X.calm = true) (hN : X.N.Nodup) (hi : PI X tg iter (tI X.K E src)) (ok : BlkOk X.N X.env.scope scope own) (hts : ∀ i ∈ ts, i ∈ own.map (·.2)) (hx : ∀ d ρ x ρ', bnd d ρ ≠ .ex x ρ')
    (hg : ∀ (s : Shared) (H : Hp) (C : Addr) (cl : List (Str × Addr)) (fp : List Addr), PG (X.blk s H scope (compEnvC scope cl C X.env) fp) tg (gD X.K ts bnd)) (ht : ∀ (s : Shared) (H : Hp) (C : Addr) (cl : List (Str × Addr)) (fp : List Addr), PTs (X.blk s H scope (compEnvC scope cl C X.env) fp) ifs (tT X.K EN tt))
    (he : ∀ (s : Shared) (H : Hp) (C : Addr) (cl : List (Str × Addr)) (fp : List Addr), PE (X.blk s H scope (compEnvC scope cl C X.env) fp) elt (tD X.K EN el)) (hs : ∀ x, foldedSetIterable iter X.env x = pure x := by intro _; rfl) :
    PE X (.ListComp elt [⟨tg, iter, ifs, 0⟩] scope pos) (tN X.K E (lcM src bnd tt el (own.map (·.2)))) :=
  pe_weak (pe_lc hc hN hi ok hg ht he hs) (lc_read hts hx (fun _ _ _ h => h) (fun _ _ _ _ h => h) (fun _ _ _ h => h) fun _ _ _ h => h)
theorem pts_nilD : PTs X [] (tT X.K E (M.ret true)) := by
  have h := pts_nil (X := X)
  exact ⟨fun pins s σ H Q I q => h.run pins s σ H Q I (by obtain ⟨B, ρ, c, a⟩ := q; exact a.here c rfl)⟩
theorem pts_oneD {c : Expr} {f : M Bool} (h : PT X c (tT X.K E f)) : PTs X [c] (tT X.K E f) := pts_one h
end
end Nc
namespace Nc
open PySem PySem.Spec PyProof.Rows L2
inductive Rf where
  | no | ok (d : D) (g : Cells) | new (o : O) (g : Cells) | ex (e : Xn) (g : Cells)
abbrev Fn := List D → Cells → Rf
abbrev vals (ds : List D) : List (Option Slot) := ds.map fun d => some (Slot.val d)
section
variable (K : PySem.W.Frag)
def spAt (vs : List V) (B : Fz) (H : Hp) (ds : List D) (g : Cells) (Q : VK) (E : XK) : Rf → Prop
  | .no => False
  | .ok d g' => ∀ v B' H', Step K (vs.map some) B H ⟨vals ds, g⟩ (vs.map some) B' H' ⟨vals ds, g'⟩ → Rep K B' d v → Q v H'
  | .new o g' => ∀ v B' H', Step K (vs.map some) B H ⟨vals ds, g⟩ (vs.map some) B' H' ⟨vals ds, g'⟩ → RN K H (vs.map some) B' H' ⟨vals ds, g'⟩ o v → Q v H'
  | .ex e g' => ∀ oc B' H', Step K (vs.map some) B H ⟨vals ds, g⟩ (vs.map some) B' H' ⟨vals ds, g'⟩ → RepX K B' H' e oc → E (.ref e.C) oc H'
/-- the promise: it does what F says -/
def spD (F : Fn) : Sp := fun vs H Q E => ∃ B ds g, Cf K B H (vs.map some) ⟨vals ds, g⟩ ∧ spAt K vs B H ds g Q E (F ds g)
end
theorem spD_imp {K : PySem.W.Frag} {F G : Fn} (h : ∀ ss g r, G ss g = r → r ≠ .no → F ss g = r) : ∀ vs H Q E, spD K G vs H Q E → spD K F vs H Q E := by
  rintro vs H Q E ⟨B, ds, g, c, k⟩
  refine ⟨B, ds, g, c, ?_⟩
  cases e : G ds g with
  | no =>
    rw [e] at k
    exact k.elim
  | _ =>
    rw [h ds g _ e (fun z => by cases z)]
    rw [e] at k
    exact k
theorem spD_len {K : PySem.W.Frag} {F : Fn} {n : Nat} (h : ∀ ds g, F ds g ≠ .no → ds.length = n) : ∀ vs H Q E, spD K F vs H Q E → vs.length = n := by
  rintro vs H Q E ⟨B, ds, g, c, k⟩
  have l : (vs.map some).length = (vals ds).length := c.len
  rw [List.length_map, List.length_map] at l
  rw [l]
  refine h ds g fun z => ?_
  rw [z] at k
  exact k
def startR (n : Nat) (ds : List D) (g : Cells) : Rho := ⟨vals ds ++ List.replicate (n - ds.length) none, g⟩
/-- what a def leaves -/
def endB : Rs Out → Rf
  | .ok (.rt d) ρ => .ok d ρ.g
  | .ok (.rn i) ρ => match ρ[i]? with
    | some (some (.own o)) => .new o ρ.g
    | _ => .no
  | .ok .nx ρ => .ok .non ρ.g
  | .ex e ρ => .ex e ρ.g
  | _ => .no
/-- what a def with n names and the body h does -/
def runB (n k : Nat) (h : M Out) : Fn := fun ds g => if ds.length = k then endB (h (startR n ds g)) else .no
section
variable {K : PySem.W.Frag} {vs : List V} {B B' : Fz} {H H' : Hp} {ds : List D} {g : Cells} {N : List Str} {σ' : L2.St} {ρ' : Rho}
theorem vals_at {i : Nat} {s : Option Slot} (h : (vals ds)[i]? = some s) : ∃ d, ds[i]? = some d ∧ s = some (.val d) := by
  rw [List.getElem?_map] at h
  obtain ⟨d, e1, e2⟩ := Option.map_eq_some_iff.mp h
  exact ⟨d, e1, e2.symm⟩
theorem startR_val {n i : Nat} {s : Slot} (e : (startR n ds g)[i]? = some (some s)) : i < ds.length ∧ ∃ d, ds[i]? = some d ∧ s = .val d := by
  have e : (vals ds ++ List.replicate (n - ds.length) none)[i]? = some (some s) := e
  by_cases hi : i < ds.length
  · rw [List.getElem?_append_left (by rw [List.length_map]; exact hi)] at e
    obtain ⟨d, e1, e2⟩ := vals_at e
    exact ⟨hi, d, e1, Option.some.inj e2⟩
  · rw [List.getElem?_append_right (by rw [List.length_map]; omega), List.getElem?_replicate] at e
    split at e
    · cases e
    · cases e
theorem start_at {i : Nat} (hi : i < vs.length) : (L2.start N vs)[i]? = (vs.map some)[i]? := by
  unfold L2.start
  rw [List.getElem?_append_left (by rw [List.length_map]; exact hi)]
theorem own_start {σ : L2.St} {n : Nat} {i : Ix} {p : Addr} : OwnAt σ B (startR n ds g) i p ↔ ∃ m, i = .c m ∧ (∃ o, g[m]? = some o) ∧ B.π m = some p := by
  cases i with
  | c m => exact ⟨fun ⟨a, b⟩ => ⟨m, rfl, a, b⟩, fun ⟨m', e, a, b⟩ => by cases e; exact ⟨a, b⟩⟩
  | s m =>
    constructor
    · rintro ⟨⟨o, e⟩, _⟩
      obtain ⟨_, d, _, e2⟩ := startR_val e
      cases e2
    · rintro ⟨m', e, _⟩
      cases e
theorem own_vals {σ : L2.St} {i : Ix} {p : Addr} : OwnAt σ B ⟨vals ds, g⟩ i p ↔ ∃ m, i = .c m ∧ (∃ o, g[m]? = some o) ∧ B.π m = some p := by
  cases i with
  | c m => exact ⟨fun ⟨a, b⟩ => ⟨m, rfl, a, b⟩, fun ⟨m', e, a, b⟩ => by cases e; exact ⟨a, b⟩⟩
  | s m =>
    constructor
    · rintro ⟨⟨o, e⟩, _⟩
      obtain ⟨d, _, e2⟩ := vals_at e
      cases e2
    · rintro ⟨m', e, _⟩
      cases e
/-- a place with trees alone -/
theorem Cf.plain {σ : L2.St} {ρ : Rho} (c : Cf K B H σ ρ) {vs : List V} {ds : List D} (r : Reps K B ds vs) : Cf K B H (vs.map some) ⟨vals ds, ρ.g⟩ := by
  refine ⟨c.bh, by show (vs.map some).length = (vals ds).length; rw [List.length_map, List.length_map, r.length], fun i s e => ?_, fun i j p h1 h2 => ?_, c.cl⟩
  · obtain ⟨d, e1, rfl⟩ := vals_at e
    obtain ⟨v, e2, rv⟩ := r.get e1
    exact ⟨v, by rw [List.getElem?_map, e2]; rfl, rv⟩
  · obtain ⟨m, rfl, a1, a2⟩ := own_vals.mp h1
    obtain ⟨m', rfl, b1, b2⟩ := own_vals.mp h2
    exact c.sep (.c m) (.c m') p ⟨a1, a2⟩ ⟨b1, b2⟩
theorem Cf.start (c : Cf K B H (vs.map some) ⟨vals ds, g⟩) : Cf K B H (L2.start N vs) (startR N.length ds g) := by
  have hl : vs.length = ds.length := by
    have : (vs.map some).length = (vals ds).length := c.len
    rwa [List.length_map, List.length_map] at this
  refine ⟨c.bh, by show (L2.start N vs).length = (vals ds ++ List.replicate (N.length - ds.length) none).length; unfold L2.start; simp [hl], fun i s e => ?_, fun i j p h1 h2 => ?_, c.cl⟩
  · cases s with
    | none => trivial
    | some s =>
      obtain ⟨hi, d, e1, rfl⟩ := startR_val e
      rw [start_at (by omega)]
      exact c.at_ i (some (.val d)) (by show (vals ds)[i]? = _; rw [List.getElem?_map, e1]; rfl)
  · exact c.sep i j p (own_vals.mpr (own_start.mp h1)) (own_vals.mpr (own_start.mp h2))
/-- behind the body -/
theorem Step.finish (c : Cf K B H (vs.map some) ⟨vals ds, g⟩) (st : Step K (L2.start N vs) B H (startR N.length ds g) σ' B' H' ρ') : Step K (vs.map some) B H ⟨vals ds, g⟩ (vs.map some) B' H' ⟨vals ds, ρ'.g⟩ := by
  have oa : ∀ b, OwnA (L2.start N vs) B (startR N.length ds g) b ↔ OwnA (vs.map some) B ⟨vals ds, g⟩ b := fun b => ⟨fun ⟨i, z⟩ => ⟨i, own_vals.mpr (own_start.mp z)⟩, fun ⟨i, z⟩ => ⟨i, own_start.mpr (own_vals.mp z)⟩⟩
  have up : ∀ i b, OwnAt (vs.map some) B' ⟨vals ds, ρ'.g⟩ i b → OwnAt σ' B' ρ' i b := fun i b z => by
    obtain ⟨m, rfl, a1, a2⟩ := own_vals.mp z
    exact ⟨a1, a2⟩
  refine ⟨⟨st.cf.bh, c.len, fun i s e => ?_, fun i j p h1 h2 => st.cf.sep i j p (up i p h1) (up j p h2), st.cf.cl⟩, st.bb, fun b o e n => st.keep b o e fun z => n ((oa b).mp z), st.there, fun b q n => (st.new b q n).imp_right (Or.imp_left (oa b).mp), fun b ⟨i, z⟩ => (st.own b ⟨i, up i b z⟩).imp_left (oa b).mp⟩
  obtain ⟨d, e1, rfl⟩ := vals_at e
  obtain ⟨x, h1, h2⟩ := c.at_ i _ e
  exact ⟨x, h1, h2.mono st.bb⟩
/-- an own object at the end is new -/
theorem Step.fresh (st : Step K (L2.start N vs) B H (startR N.length ds g) σ' B' H' ρ') {i : Nat} {o : O} (e : ρ'[i]? = some (some (.own o))) {v : V} (ev : σ'[i]? = some (some v)) : RN K H (vs.map some) B' H' ⟨vals ds, ρ'.g⟩ o v := by
  obtain ⟨p, u, e1, b1, k1, r1, oa⟩ := st.cf.own e
  rw [ev] at e1
  cases e1
  have nc : ∀ m, B'.π m = some p → False := fun m hm => by
    have hl : m < ρ'.g.length := Nat.lt_of_not_le fun l => by
      rw [st.cf.cl.dom m l] at hm
      cases hm
    have := st.cf.sep (.c m) (.s i) p ⟨⟨_, List.getElem?_eq_getElem hl⟩, hm⟩ oa
    cases this
  refine ⟨p, u, rfl, ?_, b1, k1, r1, fun ⟨j, z⟩ => ?_⟩
  · rcases st.own p ⟨_, oa⟩ with ⟨j, z⟩ | z
    · obtain ⟨m, rfl, a1, a2⟩ := own_start.mp z
      exact (nc m (st.bb.π _ _ a2)).elim
    · exact z
  · obtain ⟨m, rfl, a1, a2⟩ := own_vals.mp z
    exact nc m a2
/-- THE RULE for a def's body -/
theorem body_end {X : Cx} {k : Nat} {h : M Out} {Q : VK} {E : XK} (hsp : spD K (runB N.length k h) vs H Q E) : tS K (fun cls d _ H => E cls d H) h { nx := fun _ H' => Q .non H', rt := Q } (L2.start N vs) H := by
  obtain ⟨B, ds, g, c, k0⟩ := hsp
  refine ⟨B, _, c.start, ?_⟩
  unfold runB at k0
  split at k0
  · cases e : h (startR N.length ds g) with
    | no =>
      rw [e] at k0
      exact k0
    | ex x ρ =>
      rw [e] at k0
      exact fun oc σ' B' H' st r => k0 oc B' H' (st.finish c) r
    | ok o ρ =>
      rw [e] at k0
      cases o with
      | nx => exact fun σ' B' H' st => k0 _ B' H' (st.finish c) (by simp only [Rep])
      | rt d => exact fun v σ' B' H' st r => k0 v B' H' (st.finish c) r
      | bk => exact k0.elim
      | ct => exact k0.elim
      | rn i =>
        simp only [endB] at k0
        split at k0
        · rename_i o q
          exact ⟨⟨o, q⟩, fun v σ' B' H' st ev => k0 v B' H' (st.finish c) (st.fresh q ev)⟩
        · exact k0.elim
  · exact k0.elim
theorem runB_len {n k : Nat} {h : M Out} {ds : List D} {g : Cells} (e : runB n k h ds g ≠ .no) : ds.length = k := by
  unfold runB at e
  split at e
  · assumption
  · exact absurd rfl e
end
def callM (F : Fn) (as : M (List D)) : M D := as >>= fun ds => fun ρ => match F ds ρ.g with
  | .no => .no
  | .ok d g => .ok d ⟨ρ.l, g⟩
  | .new o g => .ok o.frozen ⟨ρ.l, g⟩
  | .ex e g => .ex e ⟨ρ.l, g⟩
def callN (F : Fn) (as : M (List D)) : M O := as >>= fun ds => fun ρ => match F ds ρ.g with
  | .no => .no
  | .ok d g => .no
  | .new o g => .ok o ⟨ρ.l, g⟩
  | .ex e g => .ex e ⟨ρ.l, g⟩
section
variable {K : PySem.W.Frag} {vs : List V} {B B' : Fz} {H H' : Hp} {ds : List D} {σ : L2.St} {ρ : Rho} {g' : Cells}
/-- back from the call -/
theorem call_back (c : Cf K B H σ ρ) (st : Step K (vs.map some) B H ⟨vals ds, ρ.g⟩ (vs.map some) B' H' ⟨vals ds, g'⟩) : Step K σ B H ρ σ B' H' ⟨ρ.l, g'⟩ := by
  have sub : ∀ b, OwnA (vs.map some) B ⟨vals ds, ρ.g⟩ b → OwnA σ B ρ b := fun b ⟨i, z⟩ => by
    obtain ⟨m, rfl, a1, a2⟩ := own_vals.mp z
    exact ⟨.c m, a1, a2⟩
  have no : ∀ i p, OwnAt σ B ρ (.s i) p → ¬ OwnA (vs.map some) B ⟨vals ds, ρ.g⟩ p := fun i p h ⟨j, z⟩ => by
    obtain ⟨m, rfl, a1, a2⟩ := own_vals.mp z
    have := c.sep (.s i) (.c m) p h ⟨a1, a2⟩
    cases this
  have own : ∀ i p, OwnAt σ B' ⟨ρ.l, g'⟩ i p → (∃ k, i = .s k ∧ OwnAt σ B ρ i p) ∨ (∃ m, i = .c m ∧ OwnAt (vs.map some) B' ⟨vals ds, g'⟩ i p) := fun i p z => by
    cases i with
    | s k => exact .inl ⟨k, rfl, z⟩
    | c m => exact .inr ⟨m, rfl, z⟩
  refine ⟨⟨st.cf.bh, c.len, fun i s e => ?_, fun i j p h1 h2 => ?_, st.cf.cl⟩, st.bb, fun b o e n => st.keep b o e fun z => n (sub b z), st.there, fun b q n => (st.new b q n).imp_right (Or.imp_left (sub b)), fun b ⟨i, z⟩ => ?_⟩
  · have q := c.at_ i s e
    cases s with
    | none => trivial
    | some s =>
      cases s with
      | val d =>
        obtain ⟨x, h1, h2⟩ := q
        exact ⟨x, h1, h2.mono st.bb⟩
      | own o =>
        obtain ⟨p, u, e1, b1, k1, r1, oa⟩ := c.own (i := i) (o := o) e
        have np := no i p oa
        refine ⟨p, u, by rw [e1]; rfl, ?_, st.keep p u k1 np, r1.mono st.bb⟩
        refine Classical.byContradiction fun y => ?_
        rcases st.new p y b1 with z | z | z
        · rw [k1] at z
          cases z
        · exact np z
        · exact r1.noTp k1 z
  · have cross : ∀ k m, OwnAt σ B ρ (.s k) p → OwnAt (vs.map some) B' ⟨vals ds, g'⟩ (.c m) p → False := fun k m a b => by
      rcases st.own p ⟨_, b⟩ with z | z
      · exact no k p a z
      · exact (OwnAt.not_frozen c a).2 z
    rcases own i p h1 with ⟨k1, rfl, y1⟩ | ⟨m1, rfl, y1⟩
    · rcases own j p h2 with ⟨k2, rfl, y2⟩ | ⟨m2, rfl, y2⟩
      · exact c.sep _ _ p y1 y2
      · exact (cross _ _ y1 y2).elim
    · rcases own j p h2 with ⟨k2, rfl, y2⟩ | ⟨m2, rfl, y2⟩
      · exact (cross _ _ y2 y1).elim
      · exact st.cf.sep _ _ p y1 y2
  · rcases own i b z with ⟨k1, rfl, y1⟩ | ⟨m1, rfl, y1⟩
    · exact .inl ⟨_, y1⟩
    · exact (st.own b ⟨_, y1⟩).imp_left (sub b)
/-- a new object that a call gives -/
theorem RN.back (c : Cf K B H σ ρ) (st : Step K (vs.map some) B H ⟨vals ds, ρ.g⟩ (vs.map some) B' H' ⟨vals ds, g'⟩) {o : O} {v : V} (r : RN K H (vs.map some) B' H' ⟨vals ds, g'⟩ o v) : RN K H σ B' H' ⟨ρ.l, g'⟩ o v := by
  obtain ⟨p, u, rfl, n0, nB, hH, ro, no⟩ := r
  refine ⟨p, u, rfl, n0, nB, hH, ro, fun ⟨i, z⟩ => ?_⟩
  cases i with
  | s i =>
    have z : OwnAt σ B ρ (.s i) p := z
    exact (OwnAt.not_frozen c z).2 n0
  | c m => exact no ⟨.c m, z⟩
end
section
variable {X : Cx} {E : WX} {x : Str} {p pos : Pos} {e : Expr} {es : List Expr} {as : M (List D)} {F : Fn} {k : Nat} {f : Addr} {fd : FuncData} {ps : List Str}
theorem call_read : ∀ σ H Q, tD X.K E (callM F as) σ H Q → tCallS (spD X.K F) (WE E) (tL X.K E as) σ H Q := by
  rintro σ H Q ⟨B, ρ, c, h⟩
  refine ⟨B, ρ, c, h.seq.imp ?_⟩
  rintro d ρ' vs B' H1 - - - ⟨ds, B1, ρ1, st1, ra, h1⟩
  have ra : Reps X.K B1 ds vs := ra
  refine ⟨B1, ds, ρ1.g, st1.cf.plain ra, ?_⟩
  cases ef : F ds ρ1.g with
  | no =>
    simp only [ef] at h1
    exact h1
  | ok d g' =>
    simp only [ef] at h1
    exact fun v B' H' st r => h1 v B' H' (call_back st1.cf st) r
  | new o g' =>
    simp only [ef] at h1
    intro v B' H' st r
    obtain ⟨p, u, rfl, n0, nB, hH, ro, no⟩ := RN.back st1.cf st r
    have s2 := (call_back st1.cf st).seal n0 nB hH no
    exact h1 _ _ _ s2 ((ro.mono (FSame.upd nB)).freeze Fz.upd_same)
  | ex d g' =>
    simp only [ef] at h1
    exact fun oc B' H' st r => h1 oc σ B' H' (call_back st1.cf st) r
theorem pd_call (G : FnOk X.prog X.w X.K X.mg X.base (L2.CX X.prog X.w) k f fd ps (spD X.K F)) (hr : Room k X.A) (hg : Gl X x) (hm : X.mg x = some (.ref f)) (hk : PySem.W.keepIn X.K (.ref f) = true) (hb : Binds X.K fd ps []) (tk : Takes X E)
    (ha : PA X (e :: es) (tL X.K E as)) (hdb : (x == ("__debug__" : Str)) = false := by decide) (he : starEach (e :: es) X.env = (false, eval e X.env) :: starEach es X.env := by rfl) (hpl : (backTo pos (starEach es X.env)).any (·.1) = false := by rfl) :
    PE X (.Call (.Name x p) (e :: es) [] pos) (tD X.K E (callM F as)) := pe_weak (pe_callS G hr hg hm hk hb (fun σ => passAt tk σ) ha hdb he hpl) call_read
end
end Nc
namespace Nc
open PySem PySem.Spec PyProof.Rows L2
def hid (L : Addr) (H : Hp) : Hp := fun b => if b = L then none else H b
theorem hid_at {L : Addr} {H : Hp} : hid L H L = none := if_pos rfl
theorem hid_ne {L b : Addr} {H : Hp} (h : b ≠ L) : hid L H b = H b := if_neg h
theorem hid_some {L b : Addr} {H : Hp} {o : HO} (h : hid L H b = some o) : b ≠ L ∧ H b = some o := by
  by_cases e : b = L
  · subst e
    rw [hid_at] at h
    cases h
  · rw [hid_ne e] at h
    exact ⟨e, h⟩
theorem hid_upd {L : Addr} {H : Hp} {o : HO} : hid L (upd H L o) = hid L H := by
  funext b
  by_cases e : b = L
  · subst e
    rw [hid_at, hid_at]
  · rw [hid_ne e, hid_ne e, upd_ne e]
section
variable {K : PySem.W.Frag} {σ σ1 : L2.St} {B B1 : Fz} {H H1 : Hp} {ρ ρ1 : Rho} {L : Addr}
theorem Cf.shown (c : Cf K B (hid L H) σ ρ) : Cf K B H σ ρ := by
  refine ⟨fun b u e => (hid_some (c.bh b u e)).2, c.len, fun i s e => ?_, c.sep, ⟨fun n o h => ?_, c.cl.dom, fun n a h z => c.cl.pin n a h ?_⟩⟩
  · have q := c.at_ i s e
    cases s with
    | none => trivial
    | some s =>
      cases s with
      | val d => exact q
      | own o =>
        obtain ⟨p, u, h1, h2, h3, h4⟩ := q
        exact ⟨p, u, h1, h2, (hid_some h3).2, h4⟩
  · obtain ⟨a, u, h1, h2, h3, h4⟩ := c.cl.at_ n o h
    exact ⟨a, u, h1, h2, (hid_some h3).2, h4⟩
  · unfold hid
    split
    · rfl
    · exact z
theorem Cf.live (c : Cf K B H σ ρ) {n : Nat} {a : Addr} (h : B.π n = some a) : OwnA σ B ρ a := by
  have hl : n < ρ.g.length := Nat.lt_of_not_le fun l => by
    rw [c.cl.dom n l] at h
    cases h
  exact ⟨.c n, ⟨_, List.getElem?_eq_getElem hl⟩, h⟩
theorem Cf.hidden (c : Cf K B H σ ρ) (nB : B L = none) (no : ¬ OwnA σ B ρ L) : Cf K B (hid L H) σ ρ := by
  refine ⟨fun b u e => ?_, c.len, fun i s e => ?_, c.sep, ⟨fun n o h => ?_, c.cl.dom, fun n a h => ?_⟩⟩
  · rw [hid_ne (ne_of_none e nB)]
    exact c.bh b u e
  · have q := c.at_ i s e
    cases s with
    | none => trivial
    | some s =>
      cases s with
      | val d => exact q
      | own o =>
        obtain ⟨p, u, e1, b1, k1, r1, oa⟩ := c.own e
        have np : p ≠ L := fun y => by
          subst y
          exact no ⟨_, oa⟩
        exact ⟨p, u, by rw [e1]; rfl, b1, by rw [hid_ne np]; exact k1, r1⟩
  · obtain ⟨a, u, h1, h2, h3, h4⟩ := c.cl.at_ n o h
    have np : a ≠ L := fun y => by
      subst y
      exact no (c.live h1)
    exact ⟨a, u, h1, h2, by rw [hid_ne np]; exact h3, h4⟩
  · have np : a ≠ L := fun y => by
      subst y
      exact no (c.live h)
    rw [hid_ne np]
    exact c.cl.pin n a h
/-- a step of what does not know the list at L -/
theorem Step.hid {o : HO} (st : Step K σ B H ρ σ1 B1 H1 ρ1) (hL : H L = some o) (nB : B L = none) (no : ¬ OwnA σ B ρ L) (nt : ∀ xs, o ≠ .tup xs := by intro _ z; cases z) : Step K σ B (Nc.hid L H) ρ σ1 B1 (Nc.hid L H1) ρ1 ∧ H1 L = some o ∧ B1 L = none ∧ ¬ OwnA σ1 B1 ρ1 L := by
  have h1 : H1 L = some o := st.keep L o hL no
  have b1 : B1 L = none := Classical.byContradiction fun y => by
    rcases st.new L y nB with z | z | ⟨xs, z⟩
    · rw [hL] at z
      cases z
    · exact no z
    · exact nt xs (Option.some.inj (hL.symm.trans z))
  have o1 : ¬ OwnA σ1 B1 ρ1 L := fun z => by
    rcases st.own L z with q | q
    · exact no q
    · rw [hL] at q
      cases q
  refine ⟨⟨st.cf.hidden b1 o1, st.bb, fun b u e n => ?_, fun b e => ?_, fun b q n => ?_, fun b z => ?_⟩, h1, b1, o1⟩
  · obtain ⟨nb, e⟩ := hid_some e
    rw [hid_ne nb]
    exact st.keep b u e n
  · by_cases hb : b = L
    · subst hb
      rw [hid_at] at e
      exact absurd rfl e
    · rw [hid_ne hb] at e ⊢
      exact st.there b e
  · rcases st.new b q n with z | z | ⟨xs, z⟩
    · left
      by_cases hb : b = L
      · subst hb
        exact hid_at
      · rw [hid_ne hb]
        exact z
    · exact .inr (.inl z)
    · by_cases hb : b = L
      · subst hb
        exact .inl hid_at
      · exact .inr (.inr ⟨xs, by rw [hid_ne hb]; exact z⟩)
  · rcases st.own b z with q | q
    · exact .inl q
    · right
      by_cases hb : b = L
      · subst hb
        exact hid_at
      · rw [hid_ne hb]
        exact q
variable {bnd : D → M Unit} {tt : M Bool} {el : M D} {vs ts : List Nat}
/-- an iterator's item, the frozen part grown -/
theorem Yields.item {J : It} {ds : List D} (ys : Yields K B1 J ds) (c : Cf K B H σ ρ) (sB : FSame B1 B) {i : Nat} {d : D} {x : V} {H2 : Hp} (hd : ds[i]? = some d) (hy : J.yld i H x H2) : ∃ B2, Step K σ B H ρ σ B2 H2 ρ ∧ Rep K B2 d x := by
  exact ys.item0 c sB hd hy
theorem ok_bnd {α β : Type} {f : M α} {g : α → M β} {ρ ρ' : Rho} {b : β} (h : (f >>= g) ρ = .ok b ρ') : ∃ a ρ1, f ρ = .ok a ρ1 ∧ g a ρ1 = .ok b ρ' := by
  cases e : f ρ with
  | no =>
    rw [bnd_no e] at h
    cases h
  | ex x ρ1 =>
    rw [bnd_ex e] at h
    cases h
  | ok a ρ1 =>
    rw [bnd_ok e] at h
    exact ⟨a, ρ1, rfl, h⟩
theorem lcLoop_cons {d : D} {ds acc out : List D} {ρ ρ' : Rho} (h : lcLoop bnd tt el vs (d :: ds) acc ρ = .ok out ρ') : acc.length < sizeLine ∧ ∃ r ρ2, turnM bnd tt el vs d ρ = .ok r ρ2 ∧ lcLoop bnd tt el vs ds (addO acc r) ρ2 = .ok out ρ' := by
  simp only [lcLoop] at h
  by_cases hz : acc.length < sizeLine
  · rw [if_pos hz] at h
    exact ⟨hz, ok_bnd h⟩
  · rw [if_neg hz] at h
    cases h
def turn2 (bnd : D → M Unit) (tt : M Bool) (src1 : M (List D)) (bnd1 : D → M Unit) (tt1 : M Bool) (el : M D) (vs vs1 : List Nat) (d : D) (acc : List D) : M (List D) := fun ρ =>
  match (bnd d >>= fun _ => tt >>= fun b => if b then src1 >>= fun ds1 => lcLoop bnd1 tt1 el vs1 ds1 acc else M.ret acc) (wipeR ρ vs) with
  | .ok r ρ' => .ok r (mixR ρ ρ' vs)
  | _ => .no
def lc2Loop (bnd : D → M Unit) (tt : M Bool) (src1 : M (List D)) (bnd1 : D → M Unit) (tt1 : M Bool) (el : M D) (vs vs1 : List Nat) : List D → List D → M (List D)
  | [], acc => M.ret acc
  | d :: ds, acc => turn2 bnd tt src1 bnd1 tt1 el vs vs1 d acc >>= fun r => lc2Loop bnd tt src1 bnd1 tt1 el vs vs1 ds r
def lc2M (src : M (List D)) (bnd : D → M Unit) (tt : M Bool) (src1 : M (List D)) (bnd1 : D → M Unit) (tt1 : M Bool) (el : M D) (vs vs1 : List Nat) : M O := src >>= fun ds => lc2Loop bnd tt src1 bnd1 tt1 el vs vs1 ds [] >>= fun out => M.ret (.lst out)
variable {E : WX} {src src1 : M (List D)} {bnd1 : D → M Unit} {tt1 : M Bool} {vs1 ts1 : List Nat}
end
theorem new_read {K : PySem.W.Frag} {E : WX} {f : M O} {te : TE} (k : ∀ σ H Q, tN K E f σ H Q → te σ H Q) : ∀ σ H Q, tD K E (frzM f) σ H Q → te σ H Q := by
  rintro σ H Q ⟨B, ρ, c, h⟩
  refine k _ _ _ ⟨B, ρ, c, h.seqS.imp ?_⟩
  rintro d ρ' x B' H1 - - - ⟨o, B1, ρ1, st1, ⟨p, u, rfl, n0, nB, hH, r, no⟩, h1⟩
  have s2 := st1.seal n0 nB hH no
  refine h1 _ _ _ s2 ?_
  exact (r.mono (FSame.upd nB)).freeze Fz.upd_same
section
variable {X : Cx} {E : WX} {st : Stmt} {te : TE} {i : Nat}
theorem sd_setR {f : M D} (h : PS X st (tAsg te (gName i))) (k : ∀ σ H Q, tD X.K E f σ H Q → te σ H Q) : PS X st (tS X.K E (setS i f)) := by
  refine ps_weak h fun Dn σ H ⟨B, ρ, c, h⟩ => k _ _ _ ⟨B, ρ, c, h.seq.imp ?_⟩
  rintro d ρ' x B' H1 - - - ⟨d, B1, ρ1, st1, rx, h1⟩
  exact h1 _ _ _ (st1.trans (st1.cf.set i rx))
end
section
variable {X : Cx} {E : WX} {elt tg iter tg1 iter1 : Expr} {ifs ifs1 : List Expr} {scope : Scope} {own : List (Str × Nat)} {pos : Pos} {bnd bnd1 : D → M Unit} {tt tt1 : M Bool} {el : M D} {ts ts1 vs1 : List Nat} {src src1 : M (List D)}
abbrev BlkP (X : Cx) (scope : Scope) (P : Cx → Prop) : Prop := ∀ (s : Shared) (H : Hp) (C : Addr) (cl : List (Str × Addr)) (fp : List Addr), P (X.blk s H scope (compEnvC scope cl C X.env) fp)
variable {i : Nat} {y : Str} {py spos : Pos}
theorem sd_setLc (hc : X.calm = true) (hN : X.N.Nodup) (hy : X.N[i]? = some y) (hyl : X.env.scope.names.lookup y = some .local) (hsw : swapsWith (.ListComp elt [⟨tg, iter, ifs, 0⟩] scope pos) (some (.Name y py)) spos.line X.env = pure true)
    (hi : PI X tg iter (tI X.K E src)) (ok : BlkOk X.N X.env.scope scope own) (hts : ∀ i ∈ ts, i ∈ own.map (·.2)) (hx : ∀ d ρ x ρ', bnd d ρ ≠ .ex x ρ') (hg : BlkP X scope fun Y => PG Y tg (gD X.K ts bnd)) (ht : BlkP X scope fun Y => PTs Y ifs (tT X.K EN tt)) (he : BlkP X scope fun Y => PE Y elt (tD X.K EN el))
    (hs : ∀ x, foldedSetIterable iter X.env x = pure x := by intro _; rfl) : PS X (.Assign [.Name y py] (.ListComp elt [⟨tg, iter, ifs, 0⟩] scope pos) spos) (tS X.K E (setS i (frzM (lcM src bnd tt el (own.map (·.2)))))) :=
  sd_setR (ps_setLc hc hN hy hyl hsw hi ok hg ht he hs) (new_read (lc_read hts hx (fun _ _ _ h => h) (fun _ _ _ _ h => h) (fun _ _ _ h => h) fun _ _ _ h => h))
end
end Nc
set_option maxHeartbeats 2000000
namespace NcN
open PySem PySem.Spec PyProof.Rows L2
end NcN
set_option maxHeartbeats 2000000
namespace Nc
open PySem PySem.Spec PyProof.Rows L2 NcN
def turnT (bnd : D → M Unit) (tt : M Bool) (T : List D → M (List D)) (vs : List Nat) (d : D) (acc : List D) : M (List D) := fun ρ =>
  match (bnd d >>= fun _ => tt >>= fun b => if b then T acc else M.ret acc) (wipeR ρ vs) with
  | .ok r ρ' => .ok r (mixR ρ ρ' vs)
  | _ => .no
def loopT (bnd : D → M Unit) (tt : M Bool) (T : List D → M (List D)) (vs : List Nat) : List D → List D → M (List D)
  | [], acc => M.ret acc
  | d :: ds, acc => turnT bnd tt T vs d acc >>= fun r => loopT bnd tt T vs ds r
def inT (src : M (List D)) (bnd : D → M Unit) (tt : M Bool) (T : List D → M (List D)) (vs : List Nat) (acc : List D) : M (List D) := src >>= fun ds => loopT bnd tt T vs ds acc
def emT (el : M D) (acc : List D) : M (List D) := fun ρ => if acc.length < sizeLine then (el >>= fun z => M.ret (acc ++ [z])) ρ else .no
def lcTM (src : M (List D)) (bnd : D → M Unit) (tt : M Bool) (T : List D → M (List D)) (vs : List Nat) : M O := src >>= fun ds => loopT bnd tt T vs ds [] >>= fun out => M.ret (.lst out)
end Nc
namespace Nc
open PySem PySem.Spec PyProof.Rows L2
/-- a set of ints has one more -/
def grown (w : World) (L : Addr) (k : Int) (S : Int → Bool) (n : Nat) : HO := SetO w L (fun j => S j || decide (j = k)) (if S k = true then n else n + 1)
section
variable {X : Cx} {pins : List (Addr × Obj)} {σ : L2.St} {H : Hp} {s : Shared}
theorem set_one {L : Addr} {S : Int → Bool} {n : Nat} {k : Int} {u : Value} {E : Value → Shared → Prop} {Q : Value → Shared → Prop} (I : Inv X pins σ H s) (hL : H L = some (SetO X.w L S n)) (few : n + 1 < scanBound) (r : RelV (.int k) u)
    (go : ∀ s', Inv X pins σ (upd H L (grown X.w L k S n)) s' → Q .none s') : wpAny (model X.prog X.w) X.A (call (.builtin "set.add") [.ref L, u]) Q E s := by
  obtain ⟨tk, rfl⟩ := r
  refine setR_add (setO_get I hL) few fun h' but R' => go _ ?_
  have there : ∃ o, h'.get? L = some o := by
    obtain ⟨o, _, _, _, e, _⟩ := id R'
    exact ⟨o, e⟩
  exact I.write (x := L) (e := L) (t' := s.toks + 1) (by rw [hL]; trivial) (.inl rfl) (fun b o hb e => (but.2 b hb).trans e) there (setO_new R')
/-- {elt for tg in iter if ..} of ints: W by the turn and a measure -/
def tSi (w : World) (wi : TI) (g : TG) (tt : TT) (te : TE) (vs : List Nat) : TE := fun σ H Q => wi σ H fun J H1 => ∀ L, H1 L = none → ∃ W : Nat → Nat → Hp → Prop, (∃ m, W 0 m (upd H1 L (SetO w L (fun _ => false) 0))) ∧ ∀ i m H, W i m H →
  (J.stop i H ∧ Q (.ref L) H) ∨ (J.go i H ∧ ∃ Nx : Hp → Prop, (∀ H', Nx H' → ∃ m', m' < m ∧ W (i + 1) m' H') ∧ ∀ x H', J.yld i H x H' → g x (wipe σ vs) H' fun σ2 H2 => wipe σ2 vs = wipe σ vs ∧ tt σ2 H2 fun b H3 =>
    if b = true then te σ2 H3 fun y H4 => ∃ (k : Int) (S : Int → Bool) (n : Nat), y = .int k ∧ H4 L = some (SetO w L S n) ∧ n + 1 < scanBound ∧ Nx (upd H4 L (grown w L k S n)) else Nx H3)
theorem si_core {Q : VK} {elt tg iter : Expr} {ifs : List Expr} {scope : Scope} {own : List (Str × Nat)} {pos pos' : Pos} {wi : TI} {g : TG} {tt : TT} {te : TE} {use : Option (Value → Sem Unit)} {Qf : Value → Shared → Prop}
    (hc : X.calm = true) (hN : X.N.Nodup) (I : Inv X pins σ H s) (hi : PI X tg iter wi) (ok : BlkOk X.N X.env.scope scope own) (hg : BlkP X scope fun Y => PG Y tg g) (ht : BlkP X scope fun Y => PTs Y ifs tt) (he : BlkP X scope fun Y => PE Y elt te)
    (hs : ∀ x, foldedSetIterable iter X.env x = pure x) (h : tSi X.w wi g tt te (own.map (·.2)) σ H Q)
    (back : ∀ L C s' m H', Inv X pins σ H' s' → Q (.ref L) H' → s'.heap.Ns C m → FpOk X pins H' C → compPost (model X.prog X.w) X.A X.xe use Qf (.ref L) C (.ok .next) s') :
    wpAny (model X.prog X.w) X.A (comprehension (.SetComp elt [⟨tg, iter, ifs, 0⟩] scope pos) scope X.env pos' (newSet (.type "set")) false (eval iter X.env) use) Qf X.xe s := by
  have free : ∀ y ∈ scope.names, y.2 = .free → ∃ c, X.env.cells.lookup y.1 = some c := fun y hy e => (ok.free y hy e).elim (fun k => I.ok.has _ (.inl k)) fun k => I.ok.has _ (.inr k)
  refine wpAny_comprehension_free (use := use) rfl hs (closure_ok free) ok.kind (fun y hy e => by rw [ok.uniq y hy, e]) (thn (hi.run pins s σ H _ I h) fun v s1 h1 => thn h1 fun w s2 h2 => ?_)
  obtain ⟨it, fp, tn, J, Ha, rfl, Ia, T, ta, fa, q⟩ := h2
  refine PpSet.newSet_ok (newEnv_comp ?_)
  generalize hL : s2.heap.objs.size = L
  have nL : Ha L = none := Ia.hok.fresh (Nat.le_of_eq hL)
  obtain ⟨W, ⟨m0, w0⟩, turn⟩ := q L nL
  -- the empty set is laid
  generalize e3 : ({ s2 with heap := s2.heap.push { cls := .type "set", dict := none, data := .set #[] 0 (.fresh 0 0 (!X.w.params.followText "set-order")) } } : Shared) = s3
  have p3 : s3.heap = s2.heap.push { cls := .type "set", dict := none, data := .set #[] 0 (.fresh 0 0 (!X.w.params.followText "set-order")) } := by rw [← e3]
  have k3 : ∀ b o, s2.heap.get? b = some o → s3.heap.get? b = some o := fun b o e => by rw [p3]; exact Heap.get?_push_of_some _ e
  generalize eb : upd Ha L (SetO X.w L (fun _ => false) 0) = Hb at w0
  have I3 : Inv X pins σ Hb s3 := by
    rw [← e3, ← eb]
    refine Ia.laid (t' := s2.toks) (fun b o e => Heap.get?_push_of_some _ e) (Nat.le_of_eq hL) ?_
    rw [← hL]
    exact setO_new (setR_fresh X.w)
  have young : ∀ b ∈ fp, b < s2.heap.objs.size := fun b hb => (T.obj _ _ ta b hb).elim fun o e => Heap.lt_size e.1
  have f3 : ∀ b ∈ fp, FpOk X pins Hb b ∧ b < s3.heap.objs.size := fun b hb => by
    refine ⟨⟨?_, (fa b hb).2⟩, by rw [p3, Heap.size_push]; exact Nat.lt_succ_of_lt (young b hb)⟩
    rw [← eb, upd_ne (by rw [← hL]; exact Nat.ne_of_lt (young b hb))]
    exact (fa b hb).1
  have t3 : tn 0 s3.heap := T.keep _ _ _ ta fun b _ o e => k3 b o e
  have I4 := block_start I3 ok hN f3
  generalize eC : s3.heap.objs.size = C at I4 f3
  have pg := hg s3 Hb C (cellsFrom (C + 1) scope.names (cloFrom X.env.cells scope.names [])) fp
  have pt := ht s3 Hb C (cellsFrom (C + 1) scope.names (cloFrom X.env.cells scope.names [])) fp
  have pe := he s3 Hb C (cellsFrom (C + 1) scope.names (cloFrom X.env.cells scope.names [])) fp
  show codeAny _ _ (.compStart (.SetComp elt [⟨tg, iter, ifs, 0⟩] scope pos) 0 (.ref it) (.ref L) (compEnvC scope (cellsFrom (C + 1) scope.names (cloFrom X.env.cells scope.names [])) C X.env)) (compPost (model X.prog X.w) X.A X.xe use Qf (.ref L) C) { s3 with heap := pushCells (s3.heap.push { cls := .type "dict", data := .dict #[] }) scope.names }
  have nfp : ∀ b ∈ fp, Hb b = none := fun b hb => (f3 b hb).1.1
  generalize ec : compEnvC scope (cellsFrom (C + 1) scope.names (cloFrom X.env.cells scope.names [])) C X.env = ce at I4 pg pt pe ⊢
  have cL : ce.locals = C := by subst ec; rfl
  generalize e4 : ({ s3 with heap := pushCells (s3.heap.push { cls := .type "dict", data := .dict #[] }) scope.names } : Shared) = s4 at I4 ⊢
  have t4 : tn 0 s4.heap := T.keep _ _ _ t3 fun b _ o e => by rw [← e4]; exact pushCells_keeps _ _ _ _ (Heap.get?_push_of_some _ e)
  have fpk : ∀ {σ' : L2.St} {H' : Hp} {s' : Shared}, Inv (X.blk s3 Hb scope ce fp) [] σ' H' s' → (∀ b ∈ fp, H' b = none) → ∀ b ∈ fp, FpOk (X.blk s3 Hb scope ce fp) [] H' b := fun {σ' H' s'} I' n b hb =>
    ⟨n b hb, (I'.ok.exf b hb).1, I'.ok.exfs b hb, .inl hb, fun x c e => (I'.ok.exf b hb).2 x c e, fun p hp => by cases hp⟩
  have loop : codeAny (model X.prog X.w) X.A (.compLoop (.SetComp elt [⟨tg, iter, ifs, 0⟩] scope pos) 0 (.ref it) (.ref L) ce) (compPost (model X.prog X.w) X.A X.xe use Qf (.ref L) C) s4 := by
    refine PpSet.compLoopS_any (fun n s' => ∃ i H', Inv (X.blk s3 Hb scope ce fp) [] (wipe σ (own.map (·.2))) H' s' ∧ tn i s'.heap ∧ (∀ b ∈ fp, H' b = none) ∧ W i n H') ?_ m0 ⟨0, Hb, I4, t4, nfp, w0⟩
    rintro n s5 ⟨i, H5, I5, t5, n5, w5⟩
    rcases turn i n H5 w5 with ⟨stop, qq⟩ | ⟨go, Nx, hNx, step⟩
    · refine thnF (T.done (X.blk s3 Hb scope ce fp) rfl rfl rfl hc i [] s5 _ H5 (fun _ _ => False) I5 (fpk I5 n5) t5 stop) fun r s6 ⟨hr, I6⟩ => ?_
      subst hr
      have I7 : Inv X pins σ H5 s6 := I3.call' (ch := fp) I6.os I6.base I6.hok I6.bare fun b hb => ⟨(f3 b hb).1.2.2.2.1, (f3 b hb).1.2.1, (f3 b hb).1.2.2.2.2.1, (f3 b hb).1.2.2.2.2.2⟩
      obtain ⟨m, hn, _⟩ := I6.loc
      have hn : s6.heap.Ns ce.locals m := hn
      have nC : H5 ce.locals = none := I6.free
      rw [cL] at hn nC
      exact back L C s6 m H5 I7 qq hn (I3.fpOk (Nat.le_of_eq eC) nC)
    · refine thnF (T.item (X.blk s3 Hb scope ce fp) rfl rfl rfl hc i [] s5 _ H5 (fun _ _ => False) I5 (fpk I5 n5) t5 go) fun r s6 ⟨u, hr, h6⟩ => ?_
      subst hr
      refine thnF h6 fun _ s7 ⟨x, H7, I7, r7, y7, t7, n7⟩ => ?_
      have I7p := I7.pinned (fpk I7 n7) (T.obj _ _ t7)
      refine thnF (pg.run _ s7 _ H7 x u _ I7p r7 (step x H7 y7)) fun _ s8 ⟨σ8, H8, I8, hw8, q8⟩ => ?_
      refine thnF (pt.run _ s8 σ8 H8 _ I8 q8) fun b s9 ⟨H9, I9, q9⟩ => ?_
      have fin : ∀ {s' : Shared} {H' : Hp}, Inv (X.blk s3 Hb scope ce fp) ([] ++ pinsAt fp s7.heap) σ8 H' s' → Nx H' → ∃ m, m < n ∧ ∃ i H', Inv (X.blk s3 Hb scope ce fp) [] (wipe σ (own.map (·.2))) H' s' ∧ tn i s'.heap ∧ (∀ b ∈ fp, H' b = none) ∧ W i m H' := fun {s' H'} I' nx => by
        obtain ⟨m', hm, w'⟩ := hNx H' nx
        have at' : ∀ b ∈ fp, ∀ o, s7.heap.get? b = some o → s'.heap.get? b = some o ∧ H' b = none := fun b hb o e => by
          have z := I'.pin (b, o) (List.mem_append_right _ (List.mem_append_right _ (mem_pinsAt hb e)))
          exact ⟨z.1, z.2.1⟩
        refine ⟨m', hm, i + 1, H', (I'.unpinned (pins := [])).weak (by rw [← hw8, wipe_length]) (fun j v e => ?_), T.keep _ _ _ t7 fun b hb o e => (at' b hb o e).1, fun b hb => (T.obj _ _ t7 b hb).elim fun o e => (at' b hb o e.1).2, w'⟩
        rw [← hw8] at e
        exact (wipe_some e).1
      cases b with
      | false =>
        simp only [Bool.false_eq_true, if_false] at q9 ⊢
        exact fin I9 q9
      | true =>
        simp only [if_true] at q9 ⊢
        refine thnF (pe.run _ s9 σ8 H9 _ I9 q9) fun z s10 ⟨yv, H10, I10, r10, k, S, n0, ey, hL10, few, nx⟩ => ?_
        subst ey
        exact set_one (X := X.blk s3 Hb scope ce fp) I10 hL10 few r10 fun s11 I11 => fin I11 nx
  exact PpSet.codeAny_compStart_set loop (T.self X.A 0 _ _ _ t4 loop)
theorem pe_si {elt tg iter : Expr} {ifs : List Expr} {scope : Scope} {own : List (Str × Nat)} {pos : Pos} {wi : TI} {g : TG} {tt : TT} {te : TE} (hc : X.calm = true) (hN : X.N.Nodup) (hi : PI X tg iter wi) (ok : BlkOk X.N X.env.scope scope own)
    (hg : BlkP X scope fun Y => PG Y tg g) (ht : BlkP X scope fun Y => PTs Y ifs tt) (he : BlkP X scope fun Y => PE Y elt te) (hs : ∀ x, foldedSetIterable iter X.env x = pure x := by intro _; rfl) : PE X (.SetComp elt [⟨tg, iter, ifs, 0⟩] scope pos) (tSi X.w wi g tt te (own.map (·.2))) := by
  refine ⟨fun pins s σ H Q I h => ?_⟩
  rw [PpSet.eval_SetComp]
  refine si_core hc hN I hi ok hg ht he hs h fun L C s' m H' I' q hn f => ⟨m, hn, fun h'' sb => ?_⟩
  obtain ⟨f0, f1, f2, f3, f4, f5⟩ := f
  exact ⟨.ref L, H', I'.turned (t' := s'.toks) (fun b o hb e => (sb.2 b hb).trans e) f0 f1 f3 f4 f5, rfl, q⟩
end
section
variable {K : PySem.W.Frag} {σ σ1 : L2.St} {B B1 : Fz} {H H1 : Hp} {ρ ρ1 : Rho} {L : Addr} {bnd : D → M Unit} {tt : M Bool} {el : M D} {vs ts : List Nat} {E : WX} {src : M (List D)}
theorem lcLoop_pre : ∀ {ds acc out : List D} {ρ ρ' : Rho}, lcLoop bnd tt el vs ds acc ρ = .ok out ρ' → acc <+: out
  | [], acc, out, ρ, ρ', h => by
    simp only [lcLoop, M.ret] at h
    cases h
    exact List.prefix_refl _
  | d :: ds, acc, out, ρ, ρ', h => by
    obtain ⟨_, r, ρ2, _, h2⟩ := lcLoop_cons h
    have := lcLoop_pre h2
    cases r with
    | none => exact this
    | some z => exact (List.prefix_append acc [z]).trans this
theorem lc_loopG {g : TG} {t : TT} {te : TE} (Ct : Fz → List D → HO → Prop) (Add : V → Hp → (Hp → Prop) → Prop) {out : List D} (mono : ∀ B B' acc o, FSame B B' → Ct B acc o → Ct B' acc o) (hnt : ∀ B acc o, Ct B acc o → ∀ xs, o ≠ .tup xs)
    (hadd : ∀ B H acc z y o Nx, H L = some o → Ct B acc o → Rep K B z y → acc.length < sizeLine → (acc ++ [z]) <+: out → (∀ o', Ct B (acc ++ [z]) o' → Nx (upd H L o')) → Add y H Nx)
    (hts : ∀ i ∈ ts, i ∈ vs) (hx : ∀ d ρ x ρ', bnd d ρ ≠ .ex x ρ') (kg : ∀ v σ H Q, gD K ts bnd v σ H Q → g v σ H Q) (kt : ∀ σ H Q, tT K EN tt σ H Q → t σ H Q) (ke : ∀ σ H Q, tD K EN el σ H Q → te σ H Q)
    {J : It} {ds acc0 : List D} {o0 : HO} {ρo : Rho} {R : Hp → Prop} (ys : Yields K B1 J ds) (c1 : Cf K B1 (hid L H1) σ ρ1) (hL : H1 L = some o0) (nB1 : B1 L = none) (no1 : ¬ OwnA σ B1 ρ1 L) (r0 : Ct B1 acc0 o0)
    (hrun : lcLoop bnd tt el vs ds acc0 ρ1 = .ok out ρo) (hfin : ∀ B' H' o', Step K σ B1 (hid L H1) ρ1 σ B' (hid L H') ρo → H' L = some o' → Ct B' out o' → B' L = none → ¬ OwnA σ B' ρo L → R H') :
    ∃ W : Nat → Nat → Hp → Prop, (∃ m, W 0 m H1) ∧ ∀ i m H, W i m H → (J.stop i H ∧ R H) ∨ (J.go i H ∧ ∃ Nx : Hp → Prop, (∀ H', Nx H' → ∃ m', m' < m ∧ W (i + 1) m' H') ∧ ∀ x H', J.yld i H x H' → g x (wipe σ vs) H' fun σ2 H2 => wipe σ2 vs = wipe σ vs ∧ t σ2 H2 fun b H3 =>
      if b = true then te σ2 H3 fun y H4 => Add y H4 Nx else Nx H3) := by
  refine ⟨fun i m H => m = ds.length - i ∧ i ≤ ds.length ∧ ∃ (B : Fz) (ρ : Rho) (acc : List D) (o : HO), Step K σ B1 (hid L H1) ρ1 σ B (hid L H) ρ ∧ B L = none ∧ ¬ OwnA σ B ρ L ∧ H L = some o ∧ Ct B acc o ∧ lcLoop bnd tt el vs (ds.drop i) acc ρ = .ok out ρo,
    ⟨ds.length, by simp, Nat.zero_le _, B1, ρ1, acc0, o0, Step.refl c1, nB1, no1, hL, r0, hrun⟩, ?_⟩
  rintro i m H ⟨rfl, hi, B, ρ, acc, o, st, nB, no, hH, ra, h⟩
  have c : Cf K B H σ ρ := st.cf.shown
  have sB := st.bb
  by_cases hlt : i < ds.length
  · refine .inr ⟨ys.go i H hlt (sB.h.trans c.bh), fun H' => ∃ (B : Fz) (ρ : Rho) (acc : List D) (o : HO), Step K σ B1 (hid L H1) ρ1 σ B (hid L H') ρ ∧ B L = none ∧ ¬ OwnA σ B ρ L ∧ H' L = some o ∧ Ct B acc o ∧ lcLoop bnd tt el vs (ds.drop (i + 1)) acc ρ = .ok out ρo,
      fun H' z => ⟨ds.length - (i + 1), by omega, rfl, hlt, z⟩, fun x H2 hy => ?_⟩
    have hd : ds[i]? = some ds[i] := List.getElem?_eq_getElem hlt
    rw [List.drop_eq_getElem_cons hlt] at h
    obtain ⟨hz, r, ρ', er, h'⟩ := lcLoop_cons h
    obtain ⟨B2, st2, rx⟩ := ys.item c sB hd hy
    obtain ⟨st2h, h2L, n2, o2⟩ := st2.hid hH nB no (hnt _ _ _ ra)
    unfold turnM at er
    split at er
    · rename_i r2 ρ3 eblk
      cases er
      have now : ¬ OwnA (wipe σ vs) B2 (wipeR ρ vs) L := fun ⟨j, z⟩ => o2 ⟨j, (own_wipe z st2.cf.len).1⟩
      have fin : ∀ {B3 H3 σ3 ρ3}, Step K (wipe σ vs) B2 H2 (wipeR ρ vs) σ3 B3 H3 ρ3 → wipe σ3 vs = wipe σ vs → Step K σ B1 (hid L H1) ρ1 σ B3 (hid L H3) (mixR ρ ρ3 vs) ∧ H3 L = some o ∧ B3 L = none ∧ ¬ OwnA σ B3 (mixR ρ ρ3 vs) L := fun {B3 H3 σ3 ρ3} s3 hw => by
        obtain ⟨s3h, h3L, n3, o3⟩ := s3.hid h2L n2 now (hnt _ _ _ ra)
        have s4 := s3h.unwiped st2h.cf hw
        refine ⟨(st.trans st2h).trans s4, h3L, n3, fun z => ?_⟩
        have s4r := s3.unwiped st2.cf hw
        rcases s4r.own L z with q | q
        · exact o2 q
        · rw [h2L] at q
          cases q
      obtain ⟨u, ρ4, e1, eblk⟩ := ok_bnd eblk
      refine kg _ _ _ _ ⟨B2, wipeR ρ vs, ds[i], st2.cf.wiped, rx, ρ4, e1, fun σ3 B3 H3 s3 hl hj _ => ?_⟩
      have hw : wipe σ3 vs = wipe σ vs := wipe_same hts (by rw [hl, wipe_length]) hj
      refine ⟨hw, kt _ _ _ ⟨B3, ρ4, s3.cf, ?_⟩⟩
      obtain ⟨b, ρ5, e2, eblk⟩ := ok_bnd eblk
      rw [e2]
      intro b' B4 H4 s4 rb
      have eb : b = b' := rb
      subst eb
      have hs4 := s3.trans s4
      cases b with
      | false =>
        simp only [Bool.false_eq_true, if_false] at eblk
        cases eblk
        refine iteF ?_
        obtain ⟨q3, q1, q2, q4⟩ := fin hs4 hw
        exact ⟨B4, _, acc, o, q3, q2, q4, q1, mono _ _ _ _ (st2.bb.trans hs4.bb) ra, h'⟩
      | true =>
        simp only [if_true] at eblk
        refine iteT (ke _ _ _ ⟨B4, ρ5, s4.cf, ?_⟩)
        obtain ⟨z, ρ6, e3, eblk⟩ := ok_bnd eblk
        rw [e3]
        cases eblk
        intro y B5 H5 s5 ry
        have ry : Rep K B5 z y := ry
        have hs5 := hs4.trans s5
        obtain ⟨q3, q1, q2, q4⟩ := fin hs5 hw
        exact hadd B5 H5 acc z y o _ q1 (mono _ _ _ _ (st2.bb.trans hs5.bb) ra) ry hz (lcLoop_pre h') fun o' k => ⟨B5, _, acc ++ [z], o', by rw [hid_upd]; exact q3, q2, q4, upd_same, k, h'⟩
    · cases er
  · have e : i = ds.length := by omega
    subst e
    rw [List.drop_length] at h
    simp only [lcLoop, M.ret] at h
    cases h
    exact .inl ⟨ys.stop H (sB.h.trans c.bh), hfin B H o st hH ra nB no⟩
end
def insU (k : Int) : List Int → List Int
  | [] => [k]
  | x :: xs => if k < x then k :: x :: xs else if k = x then x :: xs else x :: insU k xs
def sortU (ns : List Int) : List Int := ns.foldl (fun acc k => insU k acc) []
theorem mem_insU {k j : Int} : ∀ {xs : List Int}, j ∈ insU k xs ↔ j = k ∨ j ∈ xs
  | [] => by simp [insU]
  | x :: xs => by
    unfold insU
    split
    · simp
    · split
      · rename_i e
        subst e
        simp
      · rw [List.mem_cons, mem_insU, List.mem_cons]
        constructor
        · rintro (h | h | h)
          · exact .inr (.inl h)
          · exact .inl h
          · exact .inr (.inr h)
        · rintro (h | h | h)
          · exact .inr (.inl h)
          · exact .inl h
          · exact .inr (.inr h)
theorem insU_sorted {k : Int} : ∀ {xs : List Int}, xs.Pairwise (· < ·) → (insU k xs).Pairwise (· < ·)
  | [], _ => by simp [insU]
  | x :: xs, h => by
    obtain ⟨h1, h2⟩ := List.pairwise_cons.mp h
    unfold insU
    split
    · rename_i hk
      exact List.pairwise_cons.mpr ⟨fun y hy => by
        rcases List.mem_cons.mp hy with rfl | hy
        · exact hk
        · have := h1 y hy
          omega, h⟩
    · split
      · exact h
      · exact List.pairwise_cons.mpr ⟨fun y hy => by
          rcases mem_insU.mp hy with rfl | hy
          · omega
          · exact h1 y hy, insU_sorted h2⟩
theorem insU_len {k : Int} : ∀ {xs : List Int}, xs.Pairwise (· < ·) → (insU k xs).length = if k ∈ xs then xs.length else xs.length + 1
  | [], _ => by simp [insU]
  | x :: xs, h => by
    obtain ⟨h1, h2⟩ := List.pairwise_cons.mp h
    unfold insU
    split
    · rename_i hk
      have : k ∉ x :: xs := fun z => by
        rcases List.mem_cons.mp z with rfl | z
        · omega
        · have := h1 k z
          omega
      rw [if_neg this]
      rfl
    · split
      · rename_i e
        subst e
        simp
      · rename_i hk hne
        rw [List.length_cons, insU_len h2]
        by_cases hm : k ∈ xs
        · rw [if_pos hm, if_pos (List.mem_cons_of_mem _ hm)]
          rfl
        · rw [if_neg hm, if_neg (fun z => by rcases List.mem_cons.mp z with z | z; exact hne z; exact hm z)]
          rfl
theorem sortU_snoc (ns : List Int) (k : Int) : sortU (ns ++ [k]) = insU k (sortU ns) := by
  unfold sortU
  rw [List.foldl_append]
  rfl
theorem foldU_sorted : ∀ (ns : List Int) {acc : List Int}, acc.Pairwise (· < ·) → (ns.foldl (fun acc k => insU k acc) acc).Pairwise (· < ·)
  | [], _, h => h
  | n :: ns, _, h => foldU_sorted ns (insU_sorted h)
theorem sortU_sorted (ns : List Int) : (sortU ns).Pairwise (· < ·) := foldU_sorted ns List.Pairwise.nil
theorem mem_foldU {j : Int} : ∀ (ns : List Int) {acc : List Int}, j ∈ ns.foldl (fun acc k => insU k acc) acc ↔ j ∈ acc ∨ j ∈ ns
  | [], acc => by simp
  | n :: ns, acc => by
    rw [List.foldl_cons, mem_foldU ns, mem_insU, List.mem_cons]
    constructor
    · rintro ((h | h) | h)
      · exact .inr (.inl h)
      · exact .inl h
      · exact .inr (.inr h)
    · rintro (h | h | h)
      · exact .inl (.inr h)
      · exact .inl (.inl h)
      · exact .inr h
theorem mem_sortU {j : Int} {ns : List Int} : j ∈ sortU ns ↔ j ∈ ns := by
  unfold sortU
  rw [mem_foldU]
  simp
/-- two strictly rising lists with the same members are one -/
theorem rising_one : ∀ {xs ys : List Int}, xs.Pairwise (· < ·) → ys.Pairwise (· < ·) → (∀ j, j ∈ xs ↔ j ∈ ys) → xs = ys
  | [], [], _, _, _ => rfl
  | [], y :: ys, _, _, h => by
    have := (h y).mpr List.mem_cons_self
    cases this
  | x :: xs, [], _, _, h => by
    have := (h x).mp List.mem_cons_self
    cases this
  | x :: xs, y :: ys, hx, hy, h => by
    obtain ⟨x1, x2⟩ := List.pairwise_cons.mp hx
    obtain ⟨y1, y2⟩ := List.pairwise_cons.mp hy
    have e : x = y := by
      rcases List.mem_cons.mp ((h x).mp List.mem_cons_self) with e | m
      · exact e
      · rcases List.mem_cons.mp ((h y).mpr List.mem_cons_self) with e | m'
        · exact e.symm
        · have := y1 x m
          have := x1 y m'
          omega
    subst e
    congr 1
    refine rising_one x2 y2 fun j => ⟨fun m => ?_, fun m => ?_⟩
    · rcases List.mem_cons.mp ((h j).mp (List.mem_cons_of_mem _ m)) with e | q
      · subst e
        have := x1 j m
        omega
      · exact q
    · rcases List.mem_cons.mp ((h j).mpr (List.mem_cons_of_mem _ m)) with e | q
      · subst e
        have := y1 j m
        omega
      · exact q
theorem sortU_len (ns : List Int) : (sortU ns).length ≤ ns.length := by
  have : ∀ (ns acc : List Int), acc.Pairwise (· < ·) → (ns.foldl (fun acc k => insU k acc) acc).length ≤ acc.length + ns.length := by
    intro ns
    induction ns with
    | nil => intro acc _; simp
    | cons n ns ih =>
      intro acc h
      rw [List.foldl_cons, List.length_cons]
      have a := ih _ (insU_sorted (k := n) h)
      have b := insU_len (k := n) h
      split at b <;> omega
  have := this ns [] List.Pairwise.nil
  simpa [sortU] using this
def fewI (out : List D) : Option O := (D.ints out).bind fun ns => if ns.length < 63 then some (.lst ((sortU ns).map D.int)) else none
def ssM (src : M (List D)) (bnd : D → M Unit) (tt : M Bool) (el : M D) (vs : List Nat) : M O := src >>= fun ds => lcLoop bnd tt el vs ds [] >>= fun out => M.opt (fewI out)
theorem ints_mem {out : List D} {ns : List Int} (h : D.ints out = some ns) : ∀ z ∈ out, ∃ k, z = .int k := fun z hz => by
  rw [ints_map h] at hz
  obtain ⟨k, _, e⟩ := List.mem_map.mp hz
  exact ⟨k, e.symm⟩
section
variable {X : Cx} {E : WX} {elt tg iter : Expr} {ifs : List Expr} {scope : Scope} {own : List (Str × Nat)} {pos p : Pos} {bnd : D → M Unit} {tt : M Bool} {el : M D} {ts : List Nat} {src : M (List D)}
theorem ss_read {wi : TI} {g : TG} {t : TT} {te : TE} {vs : List Nat} (hts : ∀ i ∈ ts, i ∈ vs) (hx : ∀ d ρ x ρ', bnd d ρ ≠ .ex x ρ') (ki : ∀ σ H Q, tI X.K E src σ H Q → wi σ H Q) (kg : ∀ v σ H Q, gD X.K ts bnd v σ H Q → g v σ H Q) (kt : ∀ σ H Q, tT X.K EN tt σ H Q → t σ H Q) (ke : ∀ σ H Q, tD X.K EN el σ H Q → te σ H Q) :
    ∀ σ H Q, tN X.K E (ssM src bnd tt el vs) σ H Q → tCB (rSortedSet X.w) (tCons (tSi X.w wi g t te vs) tNil) σ H Q := by
  rintro σ H0 Q ⟨B0, ρ0, c0, h0⟩
  show tSi X.w wi g t te vs σ H0 fun x H1 => rSortedSet X.w [x] H1 Q
  refine ki _ _ _ ⟨B0, ρ0, c0, h0.seqS.imp ?_⟩
  rintro - - J - H1 - - - ⟨ds, B1, ρ1, st1, ys, h1⟩
  have ys : Yields X.K B1 J ds := ys
  intro L hL
  obtain ⟨out, ρo, hrun⟩ : ∃ out ρo, lcLoop bnd tt el vs ds [] ρ1 = .ok out ρo := by
    cases e : lcLoop bnd tt el vs ds [] ρ1 with
    | no =>
      rw [bnd_no e] at h1
      exact h1.elim
    | ex y ρ2 => exact absurd e lcLoop_noex
    | ok r ρ2 => exact ⟨r, ρ2, rfl⟩
  rw [bnd_ok hrun] at h1
  obtain ⟨o, eo, k⟩ := h1.optS
  unfold fewI at eo
  obtain ⟨ns, en, e2⟩ := Option.bind_eq_some_iff.mp eo
  split at e2
  · rename_i hz
    cases e2
    have nB1 := st1.cf.unfrozen hL
    have no1 := own_not_new st1.cf hL
    have hh1 : hid L (upd H1 L (SetO X.w L (fun _ => false) 0)) = H1 := by
      funext b
      by_cases e : b = L
      · subst e
        rw [hid_at, hL]
      · rw [hid_ne e, upd_ne e]
    have hlen : out.length = ns.length := by rw [ints_map en, List.length_map]
    refine lc_loopG (fun _ acc o => ∃ (ms : List Int) (S : Int → Bool), D.ints acc = some ms ∧ o = SetO X.w L S (sortU ms).length ∧ (∀ j, S j = true ↔ j ∈ ms))
      (fun y H4 Nx => ∃ (k : Int) (S : Int → Bool) (n : Nat), y = .int k ∧ H4 L = some (SetO X.w L S n) ∧ n + 1 < scanBound ∧ Nx (upd H4 L (grown X.w L k S n))) (fun _ _ _ _ _ z => z) (fun _ _ _ ⟨_, _, _, e, _⟩ _ z => by rw [e] at z; cases z) ?_ hts hx kg kt ke ys (by rw [hh1]; exact st1.cf) upd_same nB1 no1 ⟨[], fun _ => false, rfl, rfl, fun j => by simp⟩ hrun ?_
    · rintro B H acc z y o Nx hHL ⟨ms, S, e1, rfl, hS⟩ rz _ hpre go
      obtain ⟨k, rfl⟩ := ints_mem en z (hpre.subset (by simp))
      have hml : acc.length = ms.length := by rw [ints_map e1, List.length_map]
      have hpl := hpre.length_le
      rw [List.length_append, List.length_singleton] at hpl
      have es : (sortU (ms ++ [k])).length = if S k = true then (sortU ms).length else (sortU ms).length + 1 := by
        rw [sortU_snoc, insU_len (sortU_sorted ms)]
        by_cases hk : k ∈ ms
        · rw [if_pos (mem_sortU.mpr hk), if_pos ((hS k).mpr hk)]
        · rw [if_neg (fun z => hk (mem_sortU.mp z)), if_neg (fun z => hk ((hS k).mp z))]
      have few : (sortU ms).length + 1 < scanBound := by
        have := sortU_len ms
        show _ < 4096
        omega
      have eacc : acc ++ [D.int k] = (ms ++ [k]).map D.int := by rw [ints_map e1, List.map_append]; rfl
      refine ⟨k, S, (sortU ms).length, rep_int rz, hHL, few, go _ ⟨ms ++ [k], fun j => S j || decide (j = k), by rw [eacc, ints_of_map], by rw [es]; rfl, fun j => ?_⟩⟩
      rw [Bool.or_eq_true, decide_eq_true_eq, hS, List.mem_append, List.mem_singleton]
    · rintro B' H' o' st hHL ⟨ms, S, e1, rfl, hS⟩ nB no
      rw [en] at e1
      cases e1
      refine ⟨L, S, _, rfl, hHL, Nat.lt_of_le_of_lt (sortU_len ns) (by omega), fun rs p hs hm hl hp => ?_⟩
      have er : rs = sortU ns := rising_one hs (sortU_sorted ns) fun j => by rw [hm, hS, mem_sortU]
      subst er
      rw [hh1] at st
      have s2 := (st1.trans st).pokeS (st1.wasNone hL) nB no (SetO X.w L S (sortU ns).length)
      have hHh : upd (hid L H') L (SetO X.w L S (sortU ns).length) = H' := by
        funext b
        by_cases e : b = L
        · subst e
          rw [upd_same, hHL]
        · rw [upd_ne e, hid_ne e]
      rw [hHh] at s2
      exact k _ _ _ (s2.trans (s2.cf.free hp _)) (new_lst s2.cf s2.there hp (Reps.of_ints _))
  · cases e2
theorem pn_sortedSc {p2 : Pos} (hg0 : Gl X "sorted") (hm0 : X.mg "sorted" = none) (hc : X.calm = true) (hN : X.N.Nodup) (hi : PI X tg iter (tI X.K E src)) (ok : BlkOk X.N X.env.scope scope own) (hts : ∀ i ∈ ts, i ∈ own.map (·.2)) (hx : ∀ d ρ x ρ', bnd d ρ ≠ .ex x ρ')
    (hg : BlkP X scope fun Y => PG Y tg (gD X.K ts bnd)) (ht : BlkP X scope fun Y => PTs Y ifs (tT X.K EN tt)) (he : BlkP X scope fun Y => PE Y elt (tD X.K EN el)) (hs : ∀ x, foldedSetIterable iter X.env x = pure x := by intro _; rfl)
    (hs1 : starEach [.SetComp elt [⟨tg, iter, ifs, 0⟩] scope pos] X.env = (false, eval (.SetComp elt [⟨tg, iter, ifs, 0⟩] scope pos) X.env) :: starEach [] X.env := by rfl) (hp : (backTo p2 (starEach [] X.env)).any (·.1) = false := by rfl) :
    PE X (.Call (.Name "sorted" p) [.SetComp elt [⟨tg, iter, ifs, 0⟩] scope pos] [] p2) (tN X.K E (ssM src bnd tt el (own.map (·.2)))) :=
  pe_weak (pe_callB (cr_sortedSet hc) hg0 hm0 (by decide +kernel) (pa_cons (pe_si hc hN hi ok hg ht he hs) pa_nil hs1) (by decide) (by decide) hs1 hp) (ss_read hts hx (fun _ _ _ h => h) (fun _ _ _ _ h => h) (fun _ _ _ h => h) fun _ _ _ h => h)
end
end Nc
namespace Nc
open PySem PySem.Spec PyProof.Rows L2
def tyD : D → Option String
  | .non => some "NoneType"
  | .bl _ => some "bool"
  | .int _ => some "int"
  | .str _ => some "str"
  | .lst _ => some "list"
  | .tup _ => some "tuple"
  | .dk _ _ => some "dict"
  | .dt _ _ => some "dict"
  | _ => none
def isiD (T : String) (d : D) : Option D := (tyD d).bind fun t => (kitB t T).map .bl
def isiD2 (T U : String) (d : D) : Option D := (tyD d).bind fun t => (kitB t T).bind fun a => (kitB t U).map fun b => .bl (a || b)
section
variable {K : PySem.W.Frag} {B : Fz} {H : Hp}
theorem tyX_of {d : D} {x : V} {t : String} (r : RepT K B H d x) (e : tyD d = some t) : TyX K H x (.type t) := by
  cases d <;> simp only [tyD, reduceCtorEq, Option.some.injEq] at e <;> subst e
  · have := rep_non (K := K) (B := B) r
    subst this
    exact .base .non
  · have := rept_bl r
    subst this
    exact .base (.bl _)
  · have := rept_int r
    subst this
    exact .base (.int _)
  · have := rept_str r
    subst this
    exact .base (.str _)
  · obtain ⟨p, xs, rfl, h1, _⟩ := r
    exact .base (.tup h1)
  · obtain ⟨p, xs, rfl, h1, _⟩ := r
    exact .base (.lst h1)
  · obtain ⟨p, xs, rfl, h1, _⟩ := r
    exact .base (.dK h1)
  · obtain ⟨p, xs, rfl, h1, _⟩ := r
    exact .base (.dT h1)
end
section
variable {X : Cx} {E : WX} {pos p q pt : Pos} {a : Expr} {fa : M Opd} {x y : Str} {T U : String}
/-- isinstance(a, T), T a built-in class -/
theorem pd_isi (hg : Gl X "isinstance") (hm : X.mg "isinstance" = none) (ha : PE X a (tK X.K E fa)) (hgT : Gl X x) (hmT : X.mg x = none) (hT : bootBuiltins x = some (.type T)) (hn : x ≠ "__name__" := by decide) (hd : (x == ("__debug__" : Str)) = false := by decide)
    (hs : starEach [a, .Name x q] X.env = (false, eval a X.env) :: starEach [.Name x q] X.env := by rfl) (hs2 : starEach [.Name x q] X.env = (false, eval (.Name x q) X.env) :: starEach [] X.env := by rfl) (hp : (backTo pos (starEach [.Name x q] X.env)).any (·.1) = false := by rfl) :
    PE X (.Call (.Name "isinstance" p) [a, .Name x q] [] pos) (tD X.K E (k1 (isiD T) fa)) := by
  refine pe_weak (pe_callB call_isi hg hm PyProof.Rows.boot_isinstance (pa_cons ha (pa_cons (pe_bltn (v := .ty T) hgT hmT hT rfl hn hd) pa_nil hs2) hs) (by decide) (by decide) hs hp) ?_
  rintro σ H Q ⟨B, ρ, c, h⟩
  refine ⟨B, ρ, c, h.seq.imp ?_⟩
  rintro d ρ' v B' H1 - - - ⟨o, B1, ρ1, st1, rx, h1⟩
  obtain ⟨d, e1, h1⟩ := h1.getO
  obtain ⟨z, ez, k⟩ := h1.opt
  unfold isiD at ez
  obtain ⟨t, et, ez⟩ := Option.bind_eq_some_iff.mp ez
  obtain ⟨b, eb, ez⟩ := Option.map_eq_some_iff.mp ez
  subst ez
  exact ⟨v, .ty T, .type t, .type T, b, rfl, .ty T, tyX_of (RK.top st1.cf rx e1) et, kit_ty eb, k _ _ _ (Step.refl st1.cf) (by simp only [RD, Rep])⟩
/-- isinstance(a, (T, U)) -/
theorem pd_isi2 {kk : Nat} {q2 : Pos} (hg : Gl X "isinstance") (hm : X.mg "isinstance" = none) (ha : PE X a (tK X.K E fa)) (hgT : Gl X x) (hmT : X.mg x = none) (hT : bootBuiltins x = some (.type T)) (hgU : Gl X y) (hmU : X.mg y = none) (hU : bootBuiltins y = some (.type U))
    (hn : x ≠ "__name__" := by decide) (hd : (x == ("__debug__" : Str)) = false := by decide) (hn2 : y ≠ "__name__" := by decide) (hd2 : (y == ("__debug__" : Str)) = false := by decide)
    (hs : starEach [a, .Tuple [.Name x q, .Name y q2] kk pt] X.env = (false, eval a X.env) :: starEach [.Tuple [.Name x q, .Name y q2] kk pt] X.env := by rfl) (hs2 : starEach [.Tuple [.Name x q, .Name y q2] kk pt] X.env = (false, eval (.Tuple [.Name x q, .Name y q2] kk pt) X.env) :: starEach [] X.env := by rfl)
    (hs3 : starEach [.Name x q, .Name y q2] X.env = (false, eval (.Name x q) X.env) :: starEach [.Name y q2] X.env := by rfl) (hs4 : starEach [.Name y q2] X.env = (false, eval (.Name y q2) X.env) :: starEach [] X.env := by rfl)
    (hp : (backTo pos (starEach [.Tuple [.Name x q, .Name y q2] kk pt] X.env)).any (·.1) = false := by rfl) :
    PE X (.Call (.Name "isinstance" p) [a, .Tuple [.Name x q, .Name y q2] kk pt] [] pos) (tD X.K E (k1 (isiD2 T U) fa)) := by
  refine pe_weak (pe_callB call_isiT hg hm PyProof.Rows.boot_isinstance (pa_cons ha (pa_cons (pe_tup (pa_cons (pe_bltn (v := .ty T) hgT hmT hT rfl hn hd) (pa_cons (pe_bltn (v := .ty U) hgU hmU hU rfl hn2 hd2) pa_nil hs4) hs3)) pa_nil hs2) hs) (by decide) (by decide) hs hp) ?_
  rintro σ H Q ⟨B, ρ, c, h⟩
  refine ⟨B, ρ, c, h.seq.imp ?_⟩
  rintro d ρ' v B' H1 - - - ⟨o, B1, ρ1, st1, rx, h1⟩
  obtain ⟨d, e1, h1⟩ := h1.getO
  obtain ⟨z, ez, k⟩ := h1.opt
  unfold isiD2 at ez
  obtain ⟨t, et, ez⟩ := Option.bind_eq_some_iff.mp ez
  obtain ⟨b1, eb1, ez⟩ := Option.bind_eq_some_iff.mp ez
  obtain ⟨b2, eb2, ez⟩ := Option.map_eq_some_iff.mp ez
  subst ez
  refine ⟨by show 2 ≤ sizeLine; decide, fun l hl => ?_⟩
  have st2 := st1.cf.free hl (.tup [.ty T, .ty U])
  have rx2 : RK X.K H1 σ B1 (upd H1 l (.tup [.ty T, .ty U])) ρ1 o v := RK.mono st2 rx
  refine ⟨v, l, [.ty T, .ty U], .type t, [.type T, .type U], b1 || b2, rfl, upd_same, .cons (.ty T) (.cons (.ty U) .nil), tyX_of (RK.top st2.cf rx2 e1) et, ?_, k _ _ _ st2 (by simp only [RD, Rep])⟩
  refine kitAny_cons (kit_ty eb1) (fun e => ?_) (fun e => by rw [e]; rfl)
  subst e
  rw [Bool.false_or]
  refine kitAny_cons (kit_ty eb2) (fun e => ?_) (fun e => e)
  subst e
  exact kitAny_nil
end
section
variable {X : Cx} {E : WX} {a b : Expr} {px py pt pos : Pos} {kt k2 pt2} {x y : Str} {i j : Nat} {fs : M (List D)}
def parS (i j : Nat) (fs : M (List D)) : M Out := fs >>= fun ds => fun ρ => match ds with
  | [d, e] => .ok .nx ((ρ.set i (some (.val d))).set j (some (.val e)))
  | _ => .no
theorem sd_par (h : ∀ {ta : TA}, PA X [a, b] ta → PS X (.Assign [.Tuple [.Name x px, .Name y py] kt pt] (.Tuple [a, b] k2 pt2) pos) (tPar i j ta)) (ha : PA X [a, b] (tL X.K E fs)) : PS X (.Assign [.Tuple [.Name x px, .Name y py] kt pt] (.Tuple [a, b] k2 pt2) pos) (tS X.K E (parS i j fs)) := by
  refine ps_weak (h ha) fun Dn σ H ⟨B, ρ, c, h⟩ => ⟨B, ρ, c, h.seq.imp ?_⟩
  rintro d ρ' vs B' H1 - - - ⟨ds, B1, ρ1, st1, rx, h1⟩
  have rx : Reps X.K B1 ds vs := rx
  match ds, rx, h1 with
  | [], _, h1 => exact h1.elim
  | [_], _, h1 => exact h1.elim
  | _ :: _ :: _ :: _, _, h1 => exact h1.elim
  | [d, e], rx, h1 =>
    simp only [Reps] at rx
    obtain ⟨v, _, rfl, r1, w, _, rfl, r2, rfl⟩ := rx
    exact ⟨v, w, rfl, h1 _ _ _ ((st1.trans (st1.cf.set i r1)).trans ((st1.cf.set i r1).cf.set j r2))⟩
end
end Nc
namespace Nc
open PySem PySem.Spec PyProof.Rows L2
end Nc
namespace Nc
open PySem PySem.Spec PyProof.Rows L2
def OpDN (K : PySem.W.Frag) (r : R2) (op : D → D → Option O) : Prop := ∀ (B : Fz) (H : Hp) (σ : L2.St) (ρ : Rho) (d e : D) (z : O) (x y : V) (Q : VK), Cf K B H σ ρ → Rep K B d x → Rep K B e y → op d e = some z →
  (∀ v B' H', Step K σ B H ρ σ B' H' ρ → RN K H σ B' H' ρ z v → Q v H') → r x y H Q
def repO : D → D → Option O
  | .lst a, .int b => if decide (-(2 ^ 63) ≤ b) && decide (b < 2 ^ 63) && decide (a.length * b.toNat ≤ sizeLine) then some (.lst (List.replicate b.toNat a).flatten) else none
  | _, _ => none
abbrev b2N (op : D → D → Option O) (fa fb : M D) : M O := fa >>= fun d => fb >>= fun e => M.opt (op d e)
theorem opdn_rep {K : PySem.W.Frag} : OpDN K rRep repO := by
  intro B H σ ρ d e z x y Q c rx ry ez k
  cases d <;> cases e <;> simp only [repO, reduceCtorEq] at ez
  simp only [Rep] at rx ry
  obtain ⟨p, xs, rfl, h1, h2⟩ := rx
  subst ry
  split at ez
  · rename_i hc
    cases ez
    simp only [Bool.and_eq_true, decide_eq_true_eq] at hc
    obtain ⟨⟨c1, c2⟩, c3⟩ := hc
    rw [h2.length] at c3
    rename_i ds b
    exact ⟨p, b, xs, rfl, rfl, c.bh _ _ h1, c1, c2, c3, fun l hl => k _ _ _ (c.free hl _) (new_lst c (fun _ z => z) hl (h2.rep _))⟩
  · cases ez
section
variable {X : Cx} {E : WX} {a b : Expr} {pos : Pos} {fa fb : M D}
theorem pn_rep (ha : PE X a (tD X.K E fa)) (hb : PE X b (tD X.K E fb)) : PE X (.BinOp a .Mult b pos) (tN X.K E (b2N repO fa fb)) := by
  refine pe_weak (pe_op op_rep ha hb) ?_
  rintro σ H Q ⟨B, ρ, c, h⟩
  refine ⟨B, ρ, c, h.seq.imp ?_⟩
  rintro d ρ' x B' H1 - - - ⟨d, B1, ρ1, st1, rx, h1⟩
  refine ⟨B1, ρ1, st1.cf, h1.seq.imp ?_⟩
  rintro e ρ' y B' H2 - - - ⟨e, B2, ρ2, st2, ry, h2⟩
  obtain ⟨z, ez, k⟩ := h2.opt
  exact opdn_rep B2 H2 σ ρ2 d e z x y Q st2.cf (Rep.mono st2.bb rx) ry ez k
end
end Nc
namespace Nc
open PySem PySem.Spec PyProof.Rows L2
end Nc
namespace Nc
open PySem PySem.Spec PyProof.Rows L2
end Nc
namespace Nc
open PySem PySem.Spec PyProof.Rows L2
def zipPairs : List D → List D → List D := fun ds es => (ds.zip es).map fun q => .tup [q.1, q.2]
def zipD : D → D → Option (List D)
  | .tup ds, .tup es => some (zipPairs ds es)
  | .lst ds, .lst es => some (zipPairs ds es)
  | _, _ => none
def zipI (f g : M D) : M (List D) := f >>= fun d => g >>= fun e => M.opt (zipD d e)
theorem zipPairs_at {ds es : List D} {i : Nat} {d : D} (h : (zipPairs ds es)[i]? = some d) : ∃ x y, ds[i]? = some x ∧ es[i]? = some y ∧ d = .tup [x, y] := by
  unfold zipPairs at h
  rw [List.getElem?_map] at h
  obtain ⟨q, e1, e2⟩ := Option.map_eq_some_iff.mp h
  obtain ⟨h1, h2⟩ := List.getElem?_zip_eq_some.mp e1
  exact ⟨q.1, q.2, h1, h2, e2.symm⟩
theorem zipPairs_len (ds es : List D) : (zipPairs ds es).length = min ds.length es.length := by
  unfold zipPairs
  rw [List.length_map, List.length_zip]
section
variable {X : Cx} {pos : Pos}
def lstOf : D → Option (List D)
  | .lst ds => some ds
  | _ => none
/-- the items of a list into names -/
def bndQ (is : List Nat) (d : D) : M Unit := fun ρ => match lstOf d with
  | some ds => bndS is ds ρ
  | none => .no
end
end Nc
namespace Nc
open PySem PySem.Spec PyProof.Rows L2
def permL {α : Type} (perm : List Nat) (ws : List α) : List α := perm.filterMap fun i => ws[i]?
def kwG {α : Type} (p n : Nat) (perm : List Nat) (us ws : List α) : List α := if us.length = p ∧ ws.length = n then us ++ permL perm ws else []
section
variable {X : Cx} {CX : CXT} {k : Nat} {f : Addr} {fd : FuncData} {ps ks : List Str} {sp : Sp} {E : L2.St → XK} {x : Str} {p pos : Pos} {e : Expr} {es : List Expr} {kws : List Keyword} {t tk : TA}
variable {g : List Value → List Value → List Value} {gV : List V → List V → List V}
theorem run_fnkS {pins : List (Addr × Obj)} {σ : L2.St} {H : Hp} {s : Shared} {Q : VK} {us ws : List Value} {vs zs : List V} (F : FnOk X.prog X.w X.K X.mg X.base CX k f fd ps sp) (hr : Room k X.A) (hb : KBinds X.K fd ps ks g gV) (hx : PassesAt CX X σ (E σ))
    (I : Inv X pins σ H s) (r : Vals vs us) (rz : Vals zs ws) (h : sp (gV vs zs) H Q (E σ)) : wpAny (model X.prog X.w) X.A (call (.ref f) us (ks.zip ws)) (EP X pins σ Q) X.xe s := by
  have r2 := hb.rel r rz
  have hl : (g us ws).length = ps.length := by rw [← r2.length]; exact F.len _ _ _ _ h
  refine wpAny_call (codeAny_mono (F.run X.A X.stack s H ⟨us, ks.zip ws⟩ (g us ws) (gV vs zs) Q (E σ) hr I.env0 (hb.to s us ws I.kIn hl) r2 h) fun r s' hq => ?_)
  cases r with
  | error e => exact hx pins H s e s' I hq
  | ok fl =>
    cases fl with
    | ret u => exact I.after hq
    | next => exact False.elim hq
    | brk => exact False.elim hq
    | cont => exact False.elim hq
end
theorem permL_rel {perm : List Nat} {zs : List V} {ws : List Value} (h : Vals zs ws) : Vals (permL perm zs) (permL perm ws) := by
  induction perm with
  | nil => exact .nil
  | cons i perm ih =>
    unfold permL at ih ⊢
    rw [List.filterMap_cons, List.filterMap_cons]
    cases e : zs[i]? with
    | none =>
      have : ws[i]? = none := by
        rw [List.getElem?_eq_none_iff] at e ⊢
        rw [← h.length]
        exact e
      rw [this]
      exact ih
    | some z =>
      obtain ⟨u, e2, r⟩ := h.get e
      rw [e2]
      exact .cons r ih
theorem kbinds_of {K : PySem.W.Frag} {x qual : Str} {st : Stmt} {f : Addr} {fd : FuncData} {ps ks : List Str} {p n : Nat} {perm : List Nat} (U : Fun K x qual st f fd) (hne : ps ≠ [])
    (h : ∀ (kV doc pm : Value) (an : Option Addr) (cdv ct : Value) (us ws : List Value), us.length = p → ws.length = n → bindArgs (PySem.W.fnOf x qual (defArgs st) (defBody st) (defScope st) .none kV doc pm an cdv ct) ⟨us, ks.zip ws⟩ = pure (ps.zip (us ++ permL perm ws))) :
    KBinds K fd ps ks (kwG p n perm) (kwG p n perm) := by
  obtain ⟨oc, od, kV, doc, pm, an, cdv, ct, osl, rfl, lk, hcd⟩ := U.ex
  refine ⟨fun s us ws _ hl => ?_, fun {vs us zs ws} r rz => ?_⟩
  · unfold kwG at hl ⊢
    split at hl
    · rename_i hc
      rw [if_pos hc]
      exact BindsTo.of_eq (h kV doc pm an cdv ct us ws hc.1 hc.2)
    · cases ps with
      | nil => exact absurd rfl hne
      | cons q ps => simp at hl
  · unfold kwG
    by_cases hc : us.length = p ∧ ws.length = n
    · rw [if_pos hc, if_pos ⟨by rw [r.length]; exact hc.1, by rw [rz.length]; exact hc.2⟩]
      exact r.append (permL_rel rz)
    · rw [if_neg hc, if_neg fun z => hc ⟨by rw [← r.length]; exact z.1, by rw [← rz.length]; exact z.2⟩]
      exact .nil
theorem permL_reps {K : PySem.W.Frag} {B : Fz} {perm : List Nat} {ds : List D} {vs : List V} (h : Reps K B ds vs) : Reps K B (permL perm ds) (permL perm vs) := by
  induction perm with
  | nil => exact Reps.nil
  | cons i perm ih =>
    unfold permL at ih ⊢
    rw [List.filterMap_cons, List.filterMap_cons]
    cases e : ds[i]? with
    | none =>
      have : vs[i]? = none := by
        rw [List.getElem?_eq_none_iff] at e ⊢
        rw [← h.length]
        exact e
      rw [this]
      exact ih
    | some z =>
      obtain ⟨u, e2, r⟩ := h.get e
      rw [e2]
      exact Reps.cons r ih
/-- the arguments put in order -/
def kwM (p n : Nat) (perm : List Nat) (as ks : M (List D)) : M (List D) := as >>= fun ds => ks >>= fun zs => M.ret (kwG p n perm ds zs)
section
variable {X : Cx} {E : WX} {x : Str} {p pos kpos : Pos} {e : Expr} {es : List Expr} {as ks fs : M (List D)} {fv : M D} {F : Fn} {k m n : Nat} {f : Addr} {fd : FuncData} {ps kn : List Str} {kws : List Keyword} {perm : List Nat} {nm : Option Str}
abbrev PKD (X : Cx) (E : WX) (kws : List Keyword) (f : M (List D)) : Prop := PK X kws (tL X.K E f)
theorem pkd_nil : PKD X E [] (M.ret []) := by
  have h := pk_nil (X := X)
  exact ⟨fun pos pins s σ H Q I q => h.run pos pins s σ H Q I (by obtain ⟨B, ρ, c, a⟩ := q; exact a.here c Reps.nil)⟩
theorem pkd_cons (h : PE X e (tD X.K E fv)) (t : PKD X E kws fs) : PKD X E (⟨nm, e, kpos⟩ :: kws) (consM fv fs) := by
  have q := pk_cons (nm := nm) (kpos := kpos) h t
  refine ⟨fun pos pins s σ H Q I z => q.run pos pins s σ H Q I ?_⟩
  obtain ⟨B, ρ, c, h⟩ := z
  refine ⟨B, ρ, c, h.seq.imp ?_⟩
  rintro d ρ' x B' H1 - - - ⟨d, B1, ρ1, st1, rx, h1⟩
  refine ⟨B1, ρ1, st1.cf, h1.seq.imp ?_⟩
  rintro e ρ' y B' H2 - - - ⟨ds, B2, ρ2, st2, ry, h2⟩
  exact h2.here st2.cf (Reps.cons (Rep.mono st2.bb rx) ry)
theorem kwG_reps {K : PySem.W.Frag} {B : Fz} {ds es : List D} {vs us : List V} (h : Reps K B ds vs) (t : Reps K B es us) : Reps K B (kwG m n perm ds es) (kwG m n perm vs us) := by
  unfold kwG
  rw [h.length, t.length]
  split
  · exact h.append (permL_reps t)
  · exact Reps.nil
end
def par3S (i j l : Nat) (fs : M (List D)) : M Out := fs >>= fun ds => fun ρ => match ds with
  | [d, e, z] => .ok .nx (((ρ.set i (some (.val d))).set j (some (.val e))).set l (some (.val z)))
  | _ => .no
section
variable {X : Cx} {E : WX} {x y z : Str} {a b c : Expr} {pos px py pz pt pt2 : Pos} {kt k2} {fs : M (List D)} {i j l : Nat} {f1 f2 : M O}
theorem sd_par3 (h : ∀ {ta : TA}, PA X [a, b, c] ta → PS X (.Assign [.Tuple [.Name x px, .Name y py, .Name z pz] kt pt] (.Tuple [a, b, c] k2 pt2) pos) (tPar3 i j l ta)) (ha : PA X [a, b, c] (tL X.K E fs)) : PS X (.Assign [.Tuple [.Name x px, .Name y py, .Name z pz] kt pt] (.Tuple [a, b, c] k2 pt2) pos) (tS X.K E (par3S i j l fs)) := by
  refine ps_weak (h ha) fun Dn σ H ⟨B, ρ, c, h⟩ => ⟨B, ρ, c, h.seq.imp ?_⟩
  rintro d ρ' vs B' H1 - - - ⟨ds, B1, ρ1, st1, rx, h1⟩
  have rx : Reps X.K B1 ds vs := rx
  match ds, rx, h1 with
  | [], _, h1 => exact h1.elim
  | [_], _, h1 => exact h1.elim
  | [_, _], _, h1 => exact h1.elim
  | _ :: _ :: _ :: _ :: _, _, h1 => exact h1.elim
  | [d, e, w], rx, h1 =>
    simp only [Reps] at rx
    obtain ⟨v1, _, rfl, r1, v2, _, rfl, r2, v3, _, rfl, r3, rfl⟩ := rx
    have s1 := st1.cf.set i r1
    have s2 := s1.cf.set j r2
    exact ⟨v1, v2, v3, rfl, h1 _ _ _ (((st1.trans s1).trans s2).trans (s2.cf.set l r3))⟩
/-- two new objects -/
def parNK (i j : Nat) (o1 o2 : O) : M Out := fun ρ => .ok .nx ((ρ.set i (some (.own o1))).set j (some (.own o2)))
def parNS (i j : Nat) (f1 f2 : M O) : M Out := f1 >>= fun o1 => f2 >>= parNK i j o1
theorem RN.mono {K : PySem.W.Frag} {H0 H1 H2 : Hp} {σ : L2.St} {B1 B2 : Fz} {ρ1 ρ2 : Rho} {o : O} {v : V} (r : RN K H0 σ B1 H1 ρ1 o v) (st : Step K σ B1 H1 ρ1 σ B2 H2 ρ2) : RN K H0 σ B2 H2 ρ2 o v := by
  obtain ⟨p, u, rfl, n0, nB, hH, ro, no⟩ := r
  refine ⟨p, u, rfl, n0, Classical.byContradiction fun y => ?_, st.keep p u hH no, ro.mono st.bb, fun z => ?_⟩
  · rcases st.new p y nB with q | q | q
    · rw [hH] at q
      cases q
    · exact no q
    · exact ro.noTp hH q
  · rcases st.own p z with q | q
    · exact no q
    · rw [hH] at q
      cases q
theorem RN.after {K : PySem.W.Frag} {H0 H1 : Hp} {σ : L2.St} {B1 : Fz} {ρ1 : Rho} {o o1 : O} {p p1 : Addr} {i : Nat} (r : RN K H0 σ B1 H1 ρ1 o (.ref p)) (np : p ≠ p1) (hl : σ.length = ρ1.length) : RN K H0 (σ.set i (some (.ref p1))) B1 H1 (ρ1.set i (some (.own o1))) o (.ref p) := by
  obtain ⟨q, u, e, n0, nB, hH, ro, no⟩ := r
  cases e
  refine ⟨p, u, rfl, n0, nB, hH, ro, fun ⟨m, z⟩ => ?_⟩
  cases m with
  | c n => exact no ⟨.c n, z⟩
  | s m =>
    obtain ⟨⟨o', w⟩, w2⟩ := z
    rcases getD_set w with ⟨rfl, w3, hl2⟩ | ⟨hm, w3⟩
    · rw [List.getElem?_set_self (by rw [hl]; exact hl2)] at w2
      cases w2
      exact np rfl
    · rw [List.getElem?_set_ne (Ne.symm hm)] at w2
      exact no ⟨.s m, ⟨o', w3⟩, w2⟩
end
def isLD : D → Option Unit
  | .lst _ => some ()
  | _ => none
def idxD (d e : D) : Option D := match d with
  | .lst ds => match D.pys ds, e.py with
    | some ps, some p => if SeqAt.shaped (.list ps) && SeqAt.shaped p then (ps.findIdx? fun z => PyData.eqv z p).map fun j => .int (j : Nat) else none
    | _, _ => none
  | _ => none
def idxM (fa fb : M Opd) : M D := fa >>= fun o => getO o >>= fun d0 => M.opt (isLD d0) >>= fun _ => fb >>= fun u => getO o >>= fun d => getO u >>= fun e => M.opt (idxD d e)
theorem units65 {k : Nat} {A : Around} (r : Room k A) : A.units + 65 < cLine := by have := r.un; omega
end Nc
namespace Nc
open PySem PySem.Spec PyProof.Rows L2
def rngO : D → Option O
  | .int j => if decide (0 ≤ j) && decide (j ≤ 1000000) then some (.lst (rangeL 0 j.toNat)) else none
  | _ => none
def listRngM (fa : M D) : M O := fa >>= fun d => M.opt (rngO d)
theorem reps_range {K : PySem.W.Frag} {B : Fz} (j : Int) : Reps K B (rangeL 0 j.toNat) (rgV 0 j) := by
  unfold rangeL rgV
  rw [Int.sub_zero]
  generalize List.range j.toNat = ns
  induction ns with
  | nil => exact Reps.nil
  | cons n ns ih => exact Reps.cons (by simp only [Rep]) ih
section
variable {X : Cx} {E : WX} {a : Expr} {fa : M D} {p p2 pos pos2 : Pos}
theorem pn_listRng (hc : X.calm = true) (hg : Gl X "list") (hm : X.mg "list" = none) (hg2 : Gl X "range") (hm2 : X.mg "range" = none) (ha : PE X a (tD X.K E fa)) (na : starEach [a] X.env = (false, eval a X.env) :: starEach [] X.env := by rfl)
    (nb : starEach [.Call (.Name "range" p2) [a] [] pos2] X.env = (false, eval (.Call (.Name "range" p2) [a] [] pos2) X.env) :: starEach [] X.env := by rfl) :
    PE X (.Call (.Name "list" p) [.Call (.Name "range" p2) [a] [] pos2] [] pos) (tN X.K E (listRngM fa)) := by
  refine pe_weak (pe_listRg hc hg hm (prg_1 hg2 hm2 ha na) nb) ?_
  rintro σ H Q ⟨B, ρ, c, h⟩
  refine ⟨B, ρ, c, h.seq.imp ?_⟩
  rintro d ρ' x B' H1 - - - ⟨d, B1, ρ1, st1, rx, h1⟩
  obtain ⟨o, eo, k⟩ := h1.opt
  cases d <;> simp only [rngO, reduceCtorEq] at eo
  split at eo
  · rename_i j hz
    cases eo
    rw [Bool.and_eq_true, decide_eq_true_eq, decide_eq_true_eq] at hz
    refine ⟨j, by rw [rep_int rx], ⟨by omega, by omega, by omega, by omega, by omega⟩, fun q hq => k _ _ _ (st1.cf.free hq _) (new_lst st1.cf (fun _ z => z) hq (reps_range j))⟩
  · cases eo
end
end Nc
namespace Nc
open PySem PySem.Spec PyProof.Rows L2
def fldL (f : Str) : List Str → List D → Option D
  | g :: fs, d :: ds => if f = g then some d else fldL f fs ds
  | _, _ => none
def fldD (C : Addr) (f : Str) : D → Option D
  | .ob C' fs ds => if C' = C then fldL f fs ds else none
  | _ => none
theorem fldL_rep {K : PySem.W.Frag} {B : Fz} {f : Str} : ∀ {fs : List Str} {ds : List D} {xs : List V} {d : D}, Reps K B ds xs → fldL f fs ds = some d → ∃ v, (fs.zip xs).lookup f = some v ∧ Rep K B d v
  | [], ds, xs, d, _, e => by simp [fldL] at e
  | g :: fs, [], xs, d, _, e => by simp [fldL] at e
  | g :: fs, d' :: ds, xs, d, r, e => by
    simp only [Reps] at r
    obtain ⟨x, xs', rfl, r1, r2⟩ := r
    simp only [fldL] at e
    rw [List.zip_cons_cons, List.lookup_cons]
    by_cases h : f = g
    · subst h
      rw [if_pos rfl] at e
      cases e
      exact ⟨x, by simp, r1⟩
    · rw [if_neg h] at e
      obtain ⟨v, e1, e2⟩ := fldL_rep r2 e
      have hb : (f == g) = false := beq_eq_false_iff_ne.mpr h
      exact ⟨v, by simp only [hb]; exact e1, e2⟩
/-- no attribute of the name -/
theorem lookup_none {m : Str} : ∀ {fs : List Str} {xs : List V}, m ∉ fs → (fs.zip xs).lookup m = none
  | [], xs, _ => by simp
  | g :: fs, [], _ => by simp
  | g :: fs, x :: xs, h => by
    rw [List.zip_cons_cons, List.lookup_cons]
    have hb : (m == g) = false := beq_eq_false_iff_ne.mpr fun e => h (e ▸ List.mem_cons_self)
    simp only [hb]
    exact lookup_none fun z => h (List.mem_cons_of_mem _ z)
section
variable {X : Cx} {E : WX} {C : Addr} {f m : Str} {e o : Expr} {fa : M Opd} {pos apos : Pos}
theorem pk_fld (c : Cls X.K C) (n : NoAttr X.K C f) (ha : PE X e (tK X.K E fa)) (hb : attributeBase e f X.env (eval e X.env) = eval e X.env := by rfl) : PE X (.Attribute e f pos) (tD X.K E (k1 (fldD C f) fa)) := by
  refine pe_weak (pe_fld ha hb) ?_
  rintro σ H Q ⟨B, ρ, c0, h⟩
  refine ⟨B, ρ, c0, h.seq.imp ?_⟩
  rintro d ρ' x B' H1 - - - ⟨o, B1, ρ1, st1, rx, h1⟩
  obtain ⟨d, e1, h1⟩ := h1.getO
  obtain ⟨z, ez, k⟩ := h1.opt
  have top := RK.top st1.cf rx e1
  cases d <;> simp only [fldD, reduceCtorEq] at ez
  split at ez
  · rename_i hC
    subst hC
    obtain ⟨a, dx, xs, rfl, q1, q2, q3⟩ := top
    obtain ⟨v, l, r⟩ := fldL_rep q3 ez
    exact ⟨a, _, dx, _, v, rfl, q1, c, n, l, k _ _ _ (Step.refl st1.cf) r⟩
  · cases ez
/-- the object itself, which is of the class and has no attribute of the name -/
def slfD (C : Addr) (m : Str) : D → Option Unit
  | .ob C' fs _ => if C' = C ∧ m ∉ fs then some () else none
  | _ => none
theorem run_methS {k : Nat} {g : Addr} {fd : FuncData} {ps : List Str} {sp : Sp} {W : L2.St → XK} {es : List Expr} {te : TE} {t : TA} {pl : Sem Bool} (he : PE X o te) (c : Cls X.K C) (hm : Meth X.K C m g) (F : FnOk X.prog X.w X.K X.mg X.base (L2.CX X.prog X.w) k g fd ps sp) (hr : Room k X.A) (hb : Binds X.K fd ps []) (hx : ∀ σ, PassesAt (L2.CX X.prog X.w) X σ (W σ)) (ha : PA X (e :: es) t)
    (hst : starEach (e :: es) X.env = (false, eval e X.env) :: starEach es X.env := by rfl) (hpl : (backTo pos (starEach es X.env)).any (·.1) = false := by rfl)
    (ht : eval (.Call (.Attribute o m apos) (e :: es) [] pos) X.env = (do
      let ov ← eval o X.env
      standAt apos.atName
      let (f, first) ← holding [ov] (getMethod ov m pl)
      callWith pos f first (backTo pos (starEach (e :: es) X.env)) (backToKw pos (keywordEach [] X.env))) := by rfl) :
    PE X (.Call (.Attribute o m apos) (e :: es) [] pos) (fun σ H Q => te σ H fun x H1 => ∃ a dx fs, x = .ref a ∧ H1 a = some (.ins C dx fs) ∧ fs.lookup m = none ∧ t σ H1 fun vs H2 => sp (x :: vs) H2 Q (W σ)) := by
  refine ⟨fun pins s σ H Q I h => ?_⟩
  refine PySem.W.methodCall_KW (pl := pl) (thn (he.run pins s σ H _ I h) fun u s1 ⟨x, H1, I1, rx, a, dx, fs, ex, ea, l, q⟩ => ?_) ht
  subst ex
  obtain rfl : u = Value.ref a := rx
  refine getmeth_ok I1 ea c hm l ?_
  refine PySem.W.callWith_K (first := [.ref a]) (h₀ := X.base) I.ok.mod.kin hm.kp (thn (ha.run pos pins s1 σ H1 _ I1 q) fun us s2 ⟨vs, H2, I2, r, q2⟩ => ⟨I2.kIn, ?_⟩) hst hpl
  exact run_fnS (us := .ref a :: us) (vs := .ref a :: vs) F hr hb (hx σ) I2 (.cons rfl r) q2
theorem run_methS0 {k : Nat} {g : Addr} {fd : FuncData} {ps : List Str} {sp : Sp} {W : L2.St → XK} {te : TE} {pl : Sem Bool} (he : PE X o te) (c : Cls X.K C) (hm : Meth X.K C m g) (F : FnOk X.prog X.w X.K X.mg X.base (L2.CX X.prog X.w) k g fd ps sp) (hr : Room k X.A) (hb : Binds X.K fd ps []) (hx : ∀ σ, PassesAt (L2.CX X.prog X.w) X σ (W σ))
    (ht : eval (.Call (.Attribute o m apos) [] [] pos) X.env = (do
      let ov ← eval o X.env
      standAt apos.atName
      let (f, first) ← holding [ov] (getMethod ov m pl)
      callWith pos f first (backTo pos (starEach [] X.env)) (backToKw pos (keywordEach [] X.env))) := by rfl) :
    PE X (.Call (.Attribute o m apos) [] [] pos) (fun σ H Q => te σ H fun x H1 => ∃ a dx fs, x = .ref a ∧ H1 a = some (.ins C dx fs) ∧ fs.lookup m = none ∧ sp [x] H1 Q (W σ)) := by
  refine ⟨fun pins s σ H Q I h => ?_⟩
  refine PySem.W.methodCall_KW (pl := pl) (thn (he.run pins s σ H _ I h) fun u s1 ⟨x, H1, I1, rx, a, dx, fs, ex, ea, l, q⟩ => ?_) ht
  subst ex
  obtain rfl : u = Value.ref a := rx
  refine getmeth_ok I1 ea c hm l ?_
  exact PySem.W.callWith_K0 (first := [.ref a]) I1.kIn hm.kp (run_fnS (us := [.ref a]) (vs := [.ref a]) F hr hb (hx σ) I1 (.cons rfl .nil) q)
/-- what a call does, its arguments known -/
def callF (F : Fn) (ds : List D) : M D := fun ρ => match F ds ρ.g with
  | .no => .no
  | .ok d g => .ok d ⟨ρ.l, g⟩
  | .new o g => .ok o.frozen ⟨ρ.l, g⟩
  | .ex e g => .ex e ⟨ρ.l, g⟩
theorem call_core {σ : L2.St} {B : Fz} {H : Hp} {ρ : Rho} {Q : VK} {F : Fn} {ds : List D} {vs : List V} (c : Cf X.K B H σ ρ) (ra : Reps X.K B ds vs) (h1 : At X.K E (RD X.K) σ B H ρ Q (callF F ds ρ)) : spD X.K F vs H Q (WE E σ) := by
  refine ⟨B, ds, ρ.g, c.plain ra, ?_⟩
  unfold callF at h1
  cases ef : F ds ρ.g with
  | no =>
    simp only [ef] at h1
    exact h1
  | ok d g' =>
    simp only [ef] at h1
    exact fun v B' H' st r => h1 v B' H' (call_back c st) r
  | new o g' =>
    simp only [ef] at h1
    intro v B' H' st r
    obtain ⟨p, u, rfl, n0, nB, hH, ro, no⟩ := RN.back c st r
    have s2 := (call_back c st).seal n0 nB hH no
    exact h1 _ _ _ s2 ((ro.mono (FSame.upd nB)).freeze Fz.upd_same)
  | ex d g' =>
    simp only [ef] at h1
    exact fun oc B' H' st r => h1 oc σ B' H' (call_back c st) r
/-- o.m(..) -/
def methM (C : Addr) (m : Str) (F : Fn) (fo : M D) (as : M (List D)) : M D := fo >>= fun d => getO (.d d) >>= fun d0 => M.opt (slfD C m d0) >>= fun _ => as >>= fun ds => callF F (d :: ds)
variable {fo : M D} {as : M (List D)} {F : Fn} {k : Nat} {g : Addr} {fd : FuncData} {ps : List Str} {es : List Expr} {pl : Sem Bool}
theorem slf_top {B : Fz} {H : Hp} {d0 : D} {x : V} {u : Unit} (top : RepT X.K B H d0 x) (ez : slfD C m d0 = some u) : ∃ a dx fs, x = .ref a ∧ H a = some (.ins C dx fs) ∧ fs.lookup m = none := by
  cases d0 <;> simp only [slfD, reduceCtorEq] at ez
  split at ez
  · rename_i hC
    obtain ⟨rfl, hm⟩ := hC
    obtain ⟨a, dx, xs, rfl, q1, q2, q3⟩ := top
    exact ⟨a, dx, _, rfl, q1, lookup_none hm⟩
  · cases ez
theorem pd_meth (c : Cls X.K C) (hm : Meth X.K C m g) (G : FnOk X.prog X.w X.K X.mg X.base (L2.CX X.prog X.w) k g fd ps (spD X.K F)) (hr : Room k X.A) (hb : Binds X.K fd ps []) (tk : Takes X E) (he : PE X o (tD X.K E fo)) (ha : PA X (e :: es) (tL X.K E as))
    (hst : starEach (e :: es) X.env = (false, eval e X.env) :: starEach es X.env := by rfl) (hpl : (backTo pos (starEach es X.env)).any (·.1) = false := by rfl)
    (ht : eval (.Call (.Attribute o m apos) (e :: es) [] pos) X.env = (do
      let ov ← eval o X.env
      standAt apos.atName
      let (f, first) ← holding [ov] (getMethod ov m pl)
      callWith pos f first (backTo pos (starEach (e :: es) X.env)) (backToKw pos (keywordEach [] X.env))) := by rfl) :
    PE X (.Call (.Attribute o m apos) (e :: es) [] pos) (tD X.K E (methM C m F fo as)) := by
  refine pe_weak (run_methS he c hm G hr hb (fun σ => passAt tk σ) ha hst hpl ht) ?_
  rintro σ H Q ⟨B, ρ, c0, h⟩
  refine ⟨B, ρ, c0, h.seq.imp ?_⟩
  rintro d ρ' x B' H1 - - - ⟨d, B1, ρ1, st1, rx, h1⟩
  have rx : Rep X.K B1 d x := rx
  obtain ⟨d0, e1, h1⟩ := h1.getO
  obtain ⟨u, ez, h1⟩ := h1.optSeq
  obtain ⟨a, dx, fs, ex, q1, l⟩ := slf_top (RK.top (H0 := H1) st1.cf (o := .d d) rx e1) ez
  refine ⟨a, dx, fs, ex, q1, l, B1, ρ1, st1.cf, h1.seq.imp ?_⟩
  rintro d2 ρ' vs B' H2 - - - ⟨ds, B2, ρ2, st2, ra, h2⟩
  have ra : Reps X.K B2 ds vs := ra
  exact call_core st2.cf (Reps.cons (rx.mono st2.bb) ra) h2
theorem pd_meth0 (c : Cls X.K C) (hm : Meth X.K C m g) (G : FnOk X.prog X.w X.K X.mg X.base (L2.CX X.prog X.w) k g fd ps (spD X.K F)) (hr : Room k X.A) (hb : Binds X.K fd ps []) (tk : Takes X E) (he : PE X o (tD X.K E fo))
    (ht : eval (.Call (.Attribute o m apos) [] [] pos) X.env = (do
      let ov ← eval o X.env
      standAt apos.atName
      let (f, first) ← holding [ov] (getMethod ov m pl)
      callWith pos f first (backTo pos (starEach [] X.env)) (backToKw pos (keywordEach [] X.env))) := by rfl) :
    PE X (.Call (.Attribute o m apos) [] [] pos) (tD X.K E (methM C m F fo (M.ret []))) := by
  refine pe_weak (run_methS0 he c hm G hr hb (fun σ => passAt tk σ) ht) ?_
  rintro σ H Q ⟨B, ρ, c0, h⟩
  refine ⟨B, ρ, c0, h.seq.imp ?_⟩
  rintro d ρ' x B' H1 - - - ⟨d, B1, ρ1, st1, rx, h1⟩
  have rx : Rep X.K B1 d x := rx
  obtain ⟨d0, e1, h1⟩ := h1.getO
  obtain ⟨u, ez, h1⟩ := h1.optSeq
  obtain ⟨a, dx, fs, ex, q1, l⟩ := slf_top (RK.top (H0 := H1) st1.cf (o := .d d) rx e1) ez
  exact ⟨a, dx, fs, ex, q1, l, call_core st1.cf (Reps.cons rx Reps.nil) h1⟩
end
def putN (f : Str) (d : D) : List Str → List D → List Str × List D
  | [], _ => ([f], [d])
  | g :: fs, [] => ([f], [d])
  | g :: fs, x :: ds => if g = f then (g :: fs, d :: ds) else (g :: (putN f d fs ds).1, x :: (putN f d fs ds).2)
theorem putN_rep {K : PySem.W.Frag} {B : Fz} {f : Str} {d : D} {v : V} (rd : Rep K B d v) : ∀ {fs : List Str} {ds : List D} {xs : List V}, Reps K B ds xs → fs.length = xs.length → ∃ ys, putF f v (fs.zip xs) = (putN f d fs ds).1.zip ys ∧ (putN f d fs ds).1.length = ys.length ∧ Reps K B (putN f d fs ds).2 ys
  | [], ds, xs, r, hl => by
    have : xs = [] := by
      cases xs with
      | nil => rfl
      | cons x xs => simp at hl
    subst this
    exact ⟨[v], rfl, rfl, Reps.cons rd Reps.nil⟩
  | g :: fs, [], xs, r, hl => by
    simp only [Reps] at r
    subst r
    simp at hl
  | g :: fs, x :: ds, xs, r, hl => by
    simp only [Reps] at r
    obtain ⟨y, ys, rfl, r1, r2⟩ := r
    rw [List.zip_cons_cons]
    simp only [putF, putN]
    by_cases h : g = f
    · rw [if_pos h, if_pos h]
      exact ⟨v :: ys, rfl, hl, Reps.cons rd r2⟩
    · rw [if_neg h, if_neg h]
      obtain ⟨zs, e1, e2, e3⟩ := putN_rep rd r2 (by simpa using hl)
      exact ⟨y :: zs, by rw [e1]; rfl, by simp [e2], Reps.cons r1 e3⟩
def fstO (C : Addr) (f : Str) (d : D) : O → Option (Unit × O)
  | .ob C' fs ds => if C' = C ∧ fs.length < 1000 then some ((), .ob C (putN f d fs ds).1 (putN f d fs ds).2) else none
  | _ => none
def fstM (C : Addr) (f : Str) (fr : M Ref) (fv : M D) : M Out := fv >>= fun d => fr >>= fun r => updO r (fstO C f d) >>= fun _ => M.ret .nx
section
variable {X : Cx} {E : WX} {C : Addr} {f m : Str} {e o : Expr} {fr : M Ref} {fv : M D} {pos apos : Pos}
theorem sd_fst (c : Cls X.K C) (n : NoAttr X.K C f) (hx : PE X o (tF X.K E fr)) (he : PE X e (tD X.K E fv)) (hs : swapsWith e (some (.Attribute o f apos)) pos.line X.env = pure false := by rfl) : PS X (.Assign [.Attribute o f apos] e pos) (tS X.K E (fstM C f fr fv)) := by
  refine ps_weak (ps_fld hx he hs) fun Dn σ H ⟨B, ρ, c0, h⟩ => ⟨B, ρ, c0, h.seq.imp ?_⟩
  rintro d ρ' v B' H1 - - - ⟨d, B1, ρ1, st1, rv, h1⟩
  have rv : Rep X.K B1 d v := rv
  have h1 := h1.from st1
  refine ⟨B1, ρ1, st1.cf, h1.seq.imp ?_⟩
  rintro d' ρ' w B' H2 - - - ⟨rf, B2, ρ2, st2, rr, h2⟩
  have h2 := h2.from st2
  obtain ⟨p, u, o, z, o', ep, k2, ro, eg, q⟩ := AtS.updO st2.cf rr h2
  subst ep
  cases o <;> simp only [fstO, reduceCtorEq] at eg
  split at eg
  · rename_i hC
    obtain ⟨rfl, hl⟩ := hC
    cases eg
    obtain ⟨dx, xs, rfl, q2, r2⟩ := ro
    obtain ⟨ys, e1, e2, r3⟩ := putN_rep (f := f) (rv.mono st2.bb) r2 q2
    obtain ⟨sq, aq⟩ := q _ ⟨dx, ys, rfl, e2, r3⟩
    refine ⟨p, _, dx, _, rfl, k2, c, n, by rw [List.length_zip]; omega, ?_⟩
    rw [e1]
    exact aq _ _ _ (Step.refl sq.cf)
  · cases eg
end
section
variable {X : Cx} {E : WX} {C f : Addr} {e : Expr} {es : List Expr} {as : M (List D)} {F : Fn} {k : Nat} {fd : FuncData} {ps : List Str} {x : Str} {p pos : Pos}
theorem run_makeS {W : L2.St → XK} {sp : Sp} {pins : List (Addr × Obj)} {σ : L2.St} {H : Hp} {s : Shared} {Q : VK} {us : List Value} {vs : List V} (M : Mk X.K C f) (G : FnOk X.prog X.w X.K X.mg X.base (L2.CX X.prog X.w) k f fd ps sp) (hr : Room (k + 1) X.A) (hb : Binds X.K fd ps [])
    (hx : PassesAt (L2.CX X.prog X.w) X σ (W σ)) (I : Inv X pins σ H s) (r : Vals vs us)
    (h : ∀ x dx, H x = none → H dx = none → dx ≠ x → sp (.ref x :: vs) (upd (upd H dx (.own x)) x (.ins C dx [])) (fun v H2 => v = .non ∧ Q (.ref x) H2) (W σ)) :
    wpAny (model X.prog X.w) X.A (call (.ref C) us) (EP X pins σ Q) X.xe s := by
  have hq := h (s.heap.objs.size + 1) s.heap.objs.size (I.hok.fresh (Nat.le_succ _)) (I.hok.fresh (Nat.le_refl _)) (Nat.ne_of_lt (Nat.lt_succ_self _))
  have I2 := Inv.made (C := C) I
  have r2 : Vals (V.ref (s.heap.objs.size + 1) :: vs) (Value.ref (s.heap.objs.size + 1) :: us) := .cons rfl r
  have hl : (Value.ref (s.heap.objs.size + 1) :: us).length = ps.length := by
    have e := r2.length
    rw [G.len _ _ _ _ hq] at e
    exact e.symm
  have b := hb { s with heap := (s.heap.push PySem.W.emptyDict).push (PySem.W.instObj C s.heap.objs.size) } (Value.ref (s.heap.objs.size + 1) :: us) I2.kIn (by rw [List.append_nil]; exact hl)
  rw [List.append_nil] at b
  refine wpAny_call (make_map (f := f) I.kIn M.makes M.init (beq_iff_eq.mp M.fn) (codeAny_mono (G.run _ X.stack _ _ ⟨Value.ref (s.heap.objs.size + 1) :: us, []⟩ (Value.ref (s.heap.objs.size + 1) :: us) _ _ (W σ) (hr.make C us [])
    (I2.env0.make C us []) b r2 hq) fun r s' hq' => ?_))
  cases r with
  | error e => exact hx pins _ _ e s' I2 hq'
  | ok fl =>
    cases fl with
    | ret u =>
      obtain ⟨v, H', I3, rv, ev, q3⟩ := I2.after hq'
      subst ev
      exact ⟨rv, ⟨V.ref (s.heap.objs.size + 1), H', I3, rfl, q3⟩⟩
    | next => exact False.elim hq'
    | brk => exact False.elim hq'
    | cont => exact False.elim hq'
theorem run_makeE {W : L2.St → XK} {sp : Sp} {t : TA} (M : Mk X.K C f) (G : FnOk X.prog X.w X.K X.mg X.base (L2.CX X.prog X.w) k f fd ps sp) (hr : Room (k + 1) X.A) (hg : Gl X x) (hm : X.mg x = some (.ref C)) (hb : Binds X.K fd ps []) (hx : ∀ σ, PassesAt (L2.CX X.prog X.w) X σ (W σ))
    (ha : PA X (e :: es) t) (hdb : (x == ("__debug__" : Str)) = false := by decide) (he : starEach (e :: es) X.env = (false, eval e X.env) :: starEach es X.env := by rfl) (hpl : (backTo pos (starEach es X.env)).any (·.1) = false := by rfl) :
    PE X (.Call (.Name x p) (e :: es) [] pos) (fun σ H Q => t σ H fun vs H1 => ∀ x dx, H1 x = none → H1 dx = none → dx ≠ x → sp (.ref x :: vs) (upd (upd H1 dx (.own x)) x (.ins C dx [])) (fun v H2 => v = .non ∧ Q (.ref x) H2) (W σ)) := by
  refine ⟨fun pins s σ H Q I h => ?_⟩
  refine wpAny_Call_Name_kw (ld_glob I hg hm ?_ hdb)
  refine PySem.W.callWith_K (h₀ := X.base) I.ok.mod.kin M.kp (thn (ha.run pos pins s σ H _ I h) fun us s1 ⟨vs, H1, I1, r, q⟩ => ⟨I1.kIn, ?_⟩) he hpl
  exact run_makeS M G hr hb (hx σ) I1 r q
/-- the new instance as a cell -/
theorem made_cell {K : PySem.W.Frag} {σ : L2.St} {B : Fz} {H : Hp} {ρ : Rho} (c : Cf K B H σ ρ) {C x dx : Addr} (hx : H x = none) (hd : H dx = none) (ne : dx ≠ x) :
    Step K σ B H ρ σ (Fz.add B ρ.g.length x) (upd (upd H dx (.own x)) x (.ins C dx [])) ⟨ρ.l, ρ.g ++ [.ob C [] []]⟩ := by
  have s1 := c.free hd (.own x)
  have hx1 : (upd H dx (.own x)) x = none := by rw [upd_ne (Ne.symm ne)]; exact hx
  have s2 := s1.trans (s1.cf.free hx1 (.ins C dx []))
  obtain ⟨p, e, s3⟩ := s2.cell (o := .ob C [] []) (v := .ref x) ⟨x, _, rfl, hx, c.unfrozen hx, upd_same, ⟨dx, [], rfl, rfl, Reps.nil⟩, own_not_new c hx⟩
  cases e
  exact s3
end
end Nc
namespace Nc
open PySem PySem.Spec PyProof.Rows L2
mutual
/-- the tree has not the cell n -/
def noP (n : Nat) : D → Prop
  | .tup ds => noPs n ds
  | .lst ds => noPs n ds
  | .dk _ ds => noPs n ds
  | .dt _ ds => noPs n ds
  | .dl _ ds => noPs n ds
  | .ob _ _ ds => noPs n ds
  | .xn _ _ _ ds => noPs n ds
  | .xp _ _ _ ds => noPs n ds
  | .ptr m => m ≠ n
  | .non => True
  | .bl _ => True
  | .int _ => True
  | .str _ => True
  | .adr _ => True
  | .ty _ => True
  | .any m => m ≠ n
def noPs (n : Nat) : List D → Prop
  | [] => True
  | d :: ds => noP n d ∧ noPs n ds
end
section
variable {K : PySem.W.Frag} {B B1 : Fz} {n : Nat}
mutual
theorem Rep.noP (h : B.π n = none) : ∀ {d : D} {v : V}, Rep K B d v → Nc.noP n d
  | .non, _, _ => by simp only [Nc.noP]
  | .bl _, _, _ => by simp only [Nc.noP]
  | .int _, _, _ => by simp only [Nc.noP]
  | .str _, _, _ => by simp only [Nc.noP]
  | .adr _, _, _ => by simp only [Nc.noP]
  | .ty _, _, _ => by simp only [Nc.noP]
  | .tup ds, v, r => by
    simp only [Rep] at r
    obtain ⟨a, xs, _, _, r⟩ := r
    simp only [Nc.noP]
    exact Reps.noP h r
  | .lst ds, v, r => by
    simp only [Rep] at r
    obtain ⟨a, xs, _, _, r⟩ := r
    simp only [Nc.noP]
    exact Reps.noP h r
  | .dk ks ds, v, r => by
    simp only [Rep] at r
    obtain ⟨a, xs, _, _, _, r⟩ := r
    simp only [Nc.noP]
    exact Reps.noP h r
  | .dt ks ds, v, r => by
    simp only [Rep] at r
    obtain ⟨a, xs, _, _, _, r⟩ := r
    simp only [Nc.noP]
    exact Reps.noP h r
  | .dl ks ds, v, r => by
    simp only [Rep] at r
    obtain ⟨a, o, xs, _, _, _, r⟩ := r
    simp only [Nc.noP]
    exact Reps.noP h r
  | .ob C fs ds, v, r => by
    simp only [Rep] at r
    obtain ⟨a, dx, xs, _, _, _, r⟩ := r
    simp only [Nc.noP]
    exact Reps.noP h r
  | .xn C n fs ds, v, r => by
    simp only [Rep] at r
    obtain ⟨a, dx, o, xs, _, _, _, _, _, r⟩ := r
    simp only [Nc.noP]
    exact Reps.noP h r
  | .xp a dx fs ds, v, r => by
    simp only [Rep] at r
    obtain ⟨_, xs, _, _, r⟩ := r
    simp only [Nc.noP]
    exact Reps.noP h r
  | .ptr m, v, r => by
    simp only [Rep] at r
    obtain ⟨a, _, e⟩ := r
    simp only [Nc.noP]
    rintro rfl
    rw [h] at e
    cases e
  | .any m, v, r => by
    simp only [Rep] at r
    obtain ⟨a, P, _, e⟩ := r
    simp only [Nc.noP]
    rintro rfl
    rw [h] at e
    cases e
theorem Reps.noP (h : B.π n = none) : ∀ {ds : List D} {vs : List V}, Reps K B ds vs → noPs n ds
  | [], _, _ => by simp only [noPs]
  | d :: ds, vs, r => by
    simp only [Reps] at r
    obtain ⟨x, xs, _, r1, r2⟩ := r
    simp only [noPs]
    exact ⟨Rep.noP h r1, Reps.noP h r2⟩
end
mutual
theorem Rep.less (e : Same B.h B1.h) (h : ∀ m a, m ≠ n → B.π m = some a → B1.π m = some a) : ∀ {d : D} {v : V}, Nc.noP n d → Rep K B d v → Rep K B1 d v
  | .non, _, _, r => r
  | .bl _, _, _, r => r
  | .int _, _, _, r => r
  | .str _, _, _, r => r
  | .adr _, _, _, r => r
  | .ty _, _, _, r => r
  | .any m, v, q, r => by
    simp only [Rep] at r ⊢
    simp only [Nc.noP] at q
    obtain ⟨a, P, h1, h2⟩ := r
    exact ⟨a, P, h1, h m P q h2⟩
  | .tup ds, v, q, r => by
    simp only [Rep] at r ⊢
    simp only [Nc.noP] at q
    obtain ⟨a, xs, h1, h2, h3⟩ := r
    exact ⟨a, xs, h1, e _ _ h2, Reps.less e h q h3⟩
  | .lst ds, v, q, r => by
    simp only [Rep] at r ⊢
    simp only [Nc.noP] at q
    obtain ⟨a, xs, h1, h2, h3⟩ := r
    exact ⟨a, xs, h1, e _ _ h2, Reps.less e h q h3⟩
  | .dk ks ds, v, q, r => by
    simp only [Rep] at r ⊢
    simp only [Nc.noP] at q
    obtain ⟨a, xs, h1, h2, h3, h4⟩ := r
    exact ⟨a, xs, h1, e _ _ h2, h3, Reps.less e h q h4⟩
  | .dt ks ds, v, q, r => by
    simp only [Rep] at r ⊢
    simp only [Nc.noP] at q
    obtain ⟨a, xs, h1, h2, h3, h4⟩ := r
    exact ⟨a, xs, h1, e _ _ h2, h3, Reps.less e h q h4⟩
  | .dl ks ds, v, q, r => by
    simp only [Rep] at r ⊢
    simp only [Nc.noP] at q
    obtain ⟨a, o, xs, h1, h2, h3, h4⟩ := r
    exact ⟨a, o, xs, h1, e _ _ h2, h3, Reps.less e h q h4⟩
  | .ob C fs ds, v, q, r => by
    simp only [Rep] at r ⊢
    simp only [Nc.noP] at q
    obtain ⟨a, dx, xs, h1, h2, h3, h4⟩ := r
    exact ⟨a, dx, xs, h1, e _ _ h2, h3, Reps.less e h q h4⟩
  | .xn C n fs ds, v, q, r => by
    simp only [Rep] at r ⊢
    simp only [Nc.noP] at q
    obtain ⟨a, dx, o, xs, h1, h2, h6, h5, h3, h4⟩ := r
    exact ⟨a, dx, o, xs, h1, e _ _ h2, h6, h5.mono e, h3, Reps.less e h q h4⟩
  | .xp a dx fs ds, v, q, r => by
    simp only [Rep] at r ⊢
    simp only [Nc.noP] at q
    obtain ⟨h1, xs, h5, h3, h4⟩ := r
    exact ⟨h1, xs, h5.mono e, h3, Reps.less e h q h4⟩
  | .ptr m, v, q, r => by
    simp only [Rep] at r ⊢
    simp only [Nc.noP] at q
    obtain ⟨a, h1, h2⟩ := r
    exact ⟨a, h1, h m a q h2⟩
theorem Reps.less (e : Same B.h B1.h) (h : ∀ m a, m ≠ n → B.π m = some a → B1.π m = some a) : ∀ {ds : List D} {vs : List V}, noPs n ds → Reps K B ds vs → Reps K B1 ds vs
  | [], _, _, r => by
    simp only [Reps] at r ⊢
    exact r
  | d :: ds, vs, q, r => by
    simp only [Reps] at r ⊢
    simp only [noPs] at q
    obtain ⟨x, xs, h1, h2, h3⟩ := r
    exact ⟨x, xs, h1, Rep.less e h q.1 h2, Reps.less e h q.2 h3⟩
end
theorem RepO.noP (h : B.π n = none) : ∀ {o : O} {u : HO}, RepO K B o u → Nc.noP n o.frozen
  | .lst _, _, ⟨xs, _, r⟩ => by simp only [O.frozen, Nc.noP]; exact Reps.noP h r
  | .dk _ _, _, ⟨xs, _, _, r⟩ => by simp only [O.frozen, Nc.noP]; exact Reps.noP h r
  | .dt _ _, _, ⟨xs, _, _, r⟩ => by simp only [O.frozen, Nc.noP]; exact Reps.noP h r
  | .ob _ _ _, _, ⟨dx, xs, _, _, r⟩ => by simp only [O.frozen, Nc.noP]; exact Reps.noP h r
  | .tbl m P q, _, ⟨h1, _⟩ => by
    simp only [O.frozen, Nc.noP]
    rintro rfl
    rw [h] at h1
    cases h1
theorem RepO.less (e : Same B.h B1.h) (h : ∀ m a, m ≠ n → B.π m = some a → B1.π m = some a) : ∀ {o : O} {u : HO}, Nc.noP n o.frozen → RepO K B o u → RepO K B1 o u
  | .lst _, _, q, ⟨xs, h1, r⟩ => by simp only [O.frozen, Nc.noP] at q; exact ⟨xs, h1, Reps.less e h q r⟩
  | .dk _ _, _, q, ⟨xs, h1, h2, r⟩ => by simp only [O.frozen, Nc.noP] at q; exact ⟨xs, h1, h2, Reps.less e h q r⟩
  | .dt _ _, _, q, ⟨xs, h1, h2, r⟩ => by simp only [O.frozen, Nc.noP] at q; exact ⟨xs, h1, h2, Reps.less e h q r⟩
  | .ob _ _ _, _, q, ⟨dx, xs, h1, h2, r⟩ => by simp only [O.frozen, Nc.noP] at q; exact ⟨dx, xs, h1, h2, Reps.less e h q r⟩
  | .tbl m P z, _, q, ⟨h1, h2⟩ => by
    simp only [O.frozen, Nc.noP] at q
    exact ⟨h m P q h1, h2.mono e⟩
end
/-- the last cell becomes a new object -/
theorem Step.uncell {K : PySem.W.Frag} {σ : L2.St} {B B' : Fz} {H H' : Hp} {ρ : Rho} {o : O} {x : Addr} (c : Cf K B H σ ρ) (S : Step K σ B H ρ σ B' H' ⟨ρ.l, ρ.g ++ [o]⟩) (hx : B'.π ρ.g.length = some x) (x0 : H x = none) (hn : noP ρ.g.length o.frozen) :
    Step K σ B H ρ σ ⟨B'.h, B.π⟩ H' ρ ∧ RN K H σ ⟨B'.h, B.π⟩ H' ρ o (.ref x) := by
  have e0 : B.π ρ.g.length = none := c.cl.dom _ (Nat.le_refl _)
  have sB : FSame B ⟨B'.h, B.π⟩ := ⟨S.bb.h, fun _ _ e => e⟩
  have hm : ∀ m a, m ≠ ρ.g.length → B'.π m = some a → B.π m = some a := fun m a q e => by
    rcases Nat.lt_or_ge m ρ.g.length with l | l
    · obtain ⟨b, u, e1, _⟩ := c.cl.at_ m _ (List.getElem?_eq_getElem l)
      have e2 := S.bb.π _ _ e1
      rw [e] at e2
      cases e2
      exact e1
    · have := S.cf.cl.dom m (by show (ρ.g ++ [o]).length ≤ m; rw [List.length_append, List.length_singleton]; omega)
      rw [e] at this
      cases this
  have same : Same B'.h (⟨B'.h, B.π⟩ : Fz).h := Same.refl _
  have up : ∀ i p, OwnAt σ ⟨B'.h, B.π⟩ ρ i p → OwnAt σ B' ⟨ρ.l, ρ.g ++ [o]⟩ i p := fun i p z => by
    cases i with
    | s i => exact z
    | c m =>
      obtain ⟨⟨o2, e1⟩, e2⟩ := z
      exact ⟨⟨o2, by show (ρ.g ++ [o])[m]? = _; rw [List.getElem?_append_left (List.getElem?_eq_some_iff.mp e1).1]; exact e1⟩, S.bb.π _ _ e2⟩
  have glast : (ρ.g ++ [o])[ρ.g.length]? = some o := by rw [List.getElem?_append_right (Nat.le_refl _), Nat.sub_self]; rfl
  have last : OwnAt σ B' ⟨ρ.l, ρ.g ++ [o]⟩ (.c ρ.g.length) x := ⟨⟨o, glast⟩, hx⟩
  obtain ⟨a, u, l1, l2, l3, l4⟩ := S.cf.cl.at_ _ _ glast
  rw [hx] at l1
  cases l1
  refine ⟨⟨⟨S.cf.bh, c.len, fun i s e => ?_, fun i j p h1 h2 => S.cf.sep i j p (up i p h1) (up j p h2), ⟨fun m o2 e => ?_, c.cl.dom, fun m a e => S.there a (c.cl.pin m a e)⟩⟩, sB, S.keep, S.there, S.new, fun b ⟨i, z⟩ => S.own b ⟨i, up i b z⟩⟩, x, u, rfl, x0, l2, l3, RepO.less same hm hn l4, fun ⟨i, z⟩ => ?_⟩
  · have q0 := c.at_ i s e
    have q1 := S.cf.at_ i s e
    cases s with
    | none => trivial
    | some s =>
      cases s with
      | val d =>
        obtain ⟨y, h1, h2⟩ := q0
        exact ⟨y, h1, h2.mono sB⟩
      | own o2 =>
        obtain ⟨p, w, g1, g2, g3, g4⟩ := q1
        obtain ⟨p0, w0, f1, f2, f3, f4⟩ := q0
        exact ⟨p, w, g1, g2, g3, RepO.less same hm (f4.noP e0) g4⟩
  · obtain ⟨a0, w0, f1, f2, f3, f4⟩ := c.cl.at_ m o2 e
    obtain ⟨a, w, g1, g2, g3, g4⟩ := S.cf.cl.at_ m o2 (by show (ρ.g ++ [o])[m]? = _; rw [List.getElem?_append_left (List.getElem?_eq_some_iff.mp e).1]; exact e)
    have := S.bb.π _ _ f1
    rw [g1] at this
    cases this
    exact ⟨_, w, f1, g2, g3, RepO.less same hm (f4.noP e0) g4⟩
  · have z2 := S.cf.sep _ _ x (up i x z) last
    subst z2
    obtain ⟨_, e⟩ := z
    have e : B.π ρ.g.length = some x := e
    rw [e0] at e
    cases e
/-- C(..) that does not change any more: a new object -/
noncomputable def mkNF (C : Addr) (F : Fn) (ds : List D) : M O := fun ρ => match F (.ptr ρ.g.length :: ds) (ρ.g ++ [.ob C [] []]) with
  | .ok .non g => by classical exact if h : ∃ o, g = ρ.g ++ [o] ∧ noP ρ.g.length o.frozen then .ok (Classical.choose h) ρ else .no
  | .ex e g => .ex e ⟨ρ.l, g⟩
  | _ => .no
noncomputable def mkN (C : Addr) (F : Fn) (as : M (List D)) : M O := as >>= fun ds => mkNF C F ds
section
variable {X : Cx} {E : WX} {C f : Addr} {e : Expr} {es : List Expr} {as : M (List D)} {F : Fn} {k : Nat} {fd : FuncData} {ps : List Str} {x : Str} {p pos : Pos}
theorem pn_make (M : Mk X.K C f) (G : FnOk X.prog X.w X.K X.mg X.base (L2.CX X.prog X.w) k f fd ps (spD X.K F)) (hr : Room (k + 1) X.A) (hg : Gl X x) (hm : X.mg x = some (.ref C)) (hb : Binds X.K fd ps []) (tk : Takes X E)
    (ha : PA X (e :: es) (tL X.K E as)) (hdb : (x == ("__debug__" : Str)) = false := by decide) (he : starEach (e :: es) X.env = (false, eval e X.env) :: starEach es X.env := by rfl) (hpl : (backTo pos (starEach es X.env)).any (·.1) = false := by rfl) :
    PE X (.Call (.Name x p) (e :: es) [] pos) (tN X.K E (mkN C F as)) := by
  refine pe_weak (run_makeE M G hr hg hm hb (fun σ => passAt tk σ) ha hdb he hpl) ?_
  rintro σ H Q ⟨B, ρ, c0, h⟩
  refine ⟨B, ρ, c0, h.seq.imp ?_⟩
  rintro d ρ' vs B' H1 - - - ⟨ds, B1, ρ1, st1, ra, h1⟩
  have ra : Reps X.K B1 ds vs := ra
  intro x dx hx hd ne
  have s3 := made_cell st1.cf (C := C) hx hd ne
  have px : (Fz.add B1 ρ1.g.length x).π ρ1.g.length = some x := by show (if _ then _ else _) = _; rw [if_pos rfl]
  have rp : Rep X.K (Fz.add B1 ρ1.g.length x) (.ptr ρ1.g.length) (.ref x) := by
    simp only [Rep]
    exact ⟨x, rfl, px⟩
  refine ⟨_, .ptr ρ1.g.length :: ds, ρ1.g ++ [.ob C [] []], s3.cf.plain (Reps.cons rp (ra.mono s3.bb)), ?_⟩
  unfold mkNF at h1
  cases ef : F (.ptr ρ1.g.length :: ds) (ρ1.g ++ [.ob C [] []]) with
  | no =>
    simp only [ef] at h1
    exact h1
  | ok d g' =>
    cases d <;> simp only [ef] at h1 <;> try exact h1.elim
    split at h1
    · rename_i hg
      obtain ⟨hg1, hg2⟩ := Classical.choose_spec hg
      intro v B' H' st r
      have st' := call_back s3.cf st
      rw [hg1] at st'
      obtain ⟨s5, rn⟩ := Step.uncell st1.cf (s3.trans st') (st.bb.π _ _ px) hx hg2
      exact ⟨by simpa only [Rep] using r, h1 _ _ _ s5 rn⟩
    · exact h1.elim
  | new o g' =>
    simp only [ef] at h1
    exact h1.elim
  | ex d g' =>
    simp only [ef] at h1
    exact fun oc B' H' st r => h1 oc σ B' H' (s3.trans (call_back s3.cf st)) r
end
end Nc
namespace Nc
open PySem PySem.Spec PyProof.Rows L2
section
variable {X : Cx} {E : WX}
def nevM {α : Type} : M α := fun _ => .no
def chB (opB : D → D → Option D) (fc : M D) (e : D) : D → M D
  | .bl true => fc >>= fun g => M.opt (opB e g)
  | .bl false => M.ret (.bl false)
  | _ => nevM
def chM (opA opB : D → D → Option D) (fa fb fc : M D) : M D := fa >>= fun d => fb >>= fun e => M.opt (opA d e) >>= fun z => chB opB fc e z
variable {opA opB : D → D → Option D} {r r' : R2} {o o' : CmpOp} {a b c : Expr} {fa fb fc : M D} {pos : Pos}
theorem chain_read (hA : OpD X.K r opA) (hB : OpD X.K r' opB) : ∀ σ H Q, tD X.K E (chM opA opB fa fb fc) σ H Q → tChain r r' (tD X.K E fa) (tD X.K E fb) (tD X.K E fc) σ H Q := by
  rintro σ H Q ⟨B, ρ, c0, h⟩
  refine ⟨B, ρ, c0, h.seq.imp ?_⟩
  rintro d ρ' x B' H1 - - - ⟨d, B1, ρ1, st1, rx, h1⟩
  refine ⟨B1, ρ1, st1.cf, h1.seq.imp ?_⟩
  rintro e ρ' y B' H2 - - - ⟨e, B2, ρ2, st2, ry, h2⟩
  obtain ⟨z, ez, h2⟩ := h2.optSeq
  have rx : Rep X.K B2 d x := Rep.mono st2.bb rx
  have ry : Rep X.K B2 e y := ry
  refine hA B2 H2 σ ρ2 d e z x y _ st2.cf rx ry ez fun v B3 H3 st3 rz => ?_
  cases z <;> try exact h2.elim
  rename_i bb
  have ev := rep_bl rz
  subst ev
  refine ⟨bb, rfl, ?_⟩
  cases bb with
  | false =>
    rw [if_neg Bool.false_ne_true]
    exact h2 _ _ _ st3 rz
  | true =>
    rw [if_pos rfl]
    have h2 : At X.K E (RD X.K) σ B2 H2 ρ2 Q ((fc >>= fun g => M.opt (opB e g)) ρ2) := h2
    refine ⟨B3, ρ2, st3.cf, (h2.from st3).seq.imp ?_⟩
    rintro g ρ' w B' H4 - - - ⟨g, B4, ρ4, st4, rg, h4⟩
    obtain ⟨z2, ez2, k⟩ := h4.opt
    exact hB B4 H4 σ ρ4 e g z2 y w Q st4.cf ((ry.mono st3.bb).mono st4.bb) rg ez2 k
theorem pd_chain (hA : OpD X.K r opA) (hB : OpD X.K r' opB) (ho : OpR X (compareOp o) r) (ho' : OpR X (compareOp o') r') (ha : PE X a (tD X.K E fa)) (hb : PE X b (tD X.K E fb)) (hc : PE X c (tD X.K E fc))
    (hm : lastMarks [o, o'] [b, c] = false := by with_unfolding_all rfl) : PE X (.Compare a [o, o'] [b, c] pos) (tD X.K E (chM opA opB fa fb fc)) := pe_weak (pe_chain ho ho' ha hb hc hm) (chain_read hA hB)
theorem pd_lele (ha : PE X a (tD X.K E fa)) (hb : PE X b (tD X.K E fb)) (hc : PE X c (tD X.K E fc)) (hm : lastMarks [.LtE, .LtE] [b, c] = false := by with_unfolding_all rfl) : PE X (.Compare a [.LtE, .LtE] [b, c] pos) (tD X.K E (chM leD leD fa fb fc)) :=
  pd_chain opd_cmpI opd_cmpI (op_le.or op_le_str) (op_le.or op_le_str) ha hb hc hm
theorem pt_lele (ha : PE X a (tD X.K E fa)) (hb : PE X b (tD X.K E fb)) (hc : PE X c (tD X.K E fc)) (hm : lastMarks [.LtE, .LtE] [b, c] = false := by with_unfolding_all rfl) : PT X (.Compare a [.LtE, .LtE] [b, c] pos) (tT X.K E (tst (chM leD leD fa fb fc))) := by
  refine pt_weak (pt_chain (op_le.or op_le_str) (op_le.or op_le_str) ha hb hc hm) fun σ H Q ⟨B, ρ, c0, h⟩ => ?_
  refine chain_read opd_cmpI opd_cmpI σ H _ ⟨B, ρ, c0, h.seq.imp ?_⟩
  rintro d ρ' x B' H1 - - - ⟨d, B1, ρ1, st1, rx, h1⟩
  obtain ⟨z, ez, k⟩ := h1.opt
  cases d <;> simp only [asB, reduceCtorEq] at ez
  cases ez
  have rx' := rep_bl rx
  exact ⟨_, rx', k _ _ _ (Step.refl st1.cf) rfl⟩
theorem pd_conI {x : Str} {i : Int} (hg : Gl X x) (hv : ∃ u, X.mg x = some u ∧ RelV (.int i) u) (hd : (x == ("__debug__" : Str)) = false := by decide) : PE X (.Name x pos) (tD X.K E (M.ret (.int i))) := by
  obtain ⟨u, hm, r⟩ := hv
  refine pe_weak (pe_glob hg hm r hd) fun σ H Q ⟨B, ρ, c0, h⟩ => ?_
  exact h _ _ _ (Step.refl c0) (by show Rep X.K _ (.int i) _; simp only [Rep])
theorem pd_conS {x : Str} {z : Str} (hg : Gl X x) (hv : ∃ u, X.mg x = some u ∧ RelV (.str z) u) (hd : (x == ("__debug__" : Str)) = false := by decide) : PE X (.Name x pos) (tD X.K E (M.ret (.str z))) := by
  obtain ⟨u, hm, r⟩ := hv
  refine pe_weak (pe_glob hg hm r hd) fun σ H Q ⟨B, ρ, c0, h⟩ => ?_
  exact h _ _ _ (Step.refl c0) (by show Rep X.K _ (.str z) _; simp only [Rep])
end
end Nc
namespace Nc
open PySem PySem.Spec PyProof.Rows L2
/-- what a getter does, which raises nothing -/
def getF (F : Fn) (d : D) : M D := fun ρ => match F [d] ρ.g with
  | .ok d g => .ok d ⟨ρ.l, g⟩
  | .new o g => .ok o.frozen ⟨ρ.l, g⟩
  | _ => .no
/-- the object, of the class -/
def isObD (C : Addr) : D → Option Unit
  | .ob C' _ _ => if C' = C then some () else none
  | _ => none
def propG (C : Addr) (F : Fn) (fo : M D) : M D := fo >>= fun d => getO (.d d) >>= fun d0 => M.opt (isObD C d0) >>= fun _ => getF F d
section
variable {X : Cx} {E : WX} {C : Addr} {f : Str} {o : Expr} {fo : M D} {F : Fn} {k : Nat} {p g : Addr} {fd : FuncData} {ps : List Str} {pos : Pos}
theorem isOb_top {B : Fz} {H : Hp} {d0 : D} {x : V} {u : Unit} (top : RepT X.K B H d0 x) (ez : isObD C d0 = some u) : ∃ a dx fs, x = .ref a ∧ H a = some (.ins C dx fs) := by
  cases d0 <;> simp only [isObD, reduceCtorEq] at ez
  split at ez
  · rename_i hC
    subst hC
    obtain ⟨a, dx, xs, rfl, q1, q2, q3⟩ := top
    exact ⟨a, dx, _, rfl, q1⟩
  · cases ez
theorem pd_prop (c : Cls X.K C) (hp : PropOf X.K C f p g) (G : FnOk X.prog X.w X.K X.mg X.base (L2.CX X.prog X.w) k g fd ps (spD X.K F)) (hr : Room (k + 1) X.A) (hb : Binds X.K fd ps []) (he : PE X o (tD X.K E fo))
    (hab : attributeBase o f X.env (eval o X.env) = eval o X.env := by rfl) : PE X (.Attribute o f pos) (tD X.K E (propG C F fo)) := by
  have hx : Passes (L2.CX X.prog X.w) X.nox (fun _ _ _ => False) := fun pins σ H s e s' I h => passAt (X := X.nox) (W := fun _ _ _ _ => False) (fun u s' ⟨a, B, sI, pins, σ, H, cls, d, e, I, nb, up, sky, na, os, ag, w⟩ => w.elim) σ pins H s e s' I h
  refine pe_weak (pe_prop (sp := spD X.K F) (dvs := []) (ds := []) he c hp G hr hb .nil hx hab) ?_
  rintro σ H Q ⟨B, ρ, c0, h⟩
  refine ⟨B, ρ, c0, h.seq.imp ?_⟩
  rintro d ρ' x B' H1 - - - ⟨d, B1, ρ1, st1, rx, h1⟩
  have rx : Rep X.K B1 d x := rx
  obtain ⟨d0, e1, h1⟩ := h1.getO
  obtain ⟨u, ez, h2⟩ := h1.optSeq
  clear h1
  have h1 : At X.K E (RD X.K) σ B1 H1 ρ1 Q (getF F d ρ1) := h2
  clear h2
  obtain ⟨a, dx, fs, ex, q1⟩ := isOb_top (RK.top (H0 := H1) st1.cf (o := .d d) rx e1) ez
  subst ex
  refine ⟨a, dx, fs, rfl, q1, B1, [d], ρ1.g, st1.cf.plain (Reps.cons rx Reps.nil), ?_⟩
  unfold getF at h1
  cases ef : F [d] ρ1.g with
  | no =>
    simp only [ef] at h1
    exact h1.elim
  | ex e g' =>
    simp only [ef] at h1
    exact h1.elim
  | ok d g' =>
    simp only [ef] at h1
    exact fun v B' H' st r => h1 v B' H' (call_back st1.cf st) r
  | new o g' =>
    simp only [ef] at h1
    intro v B' H' st r
    obtain ⟨p, u, rfl, n0, nB, hH, ro, no⟩ := RN.back st1.cf st r
    have s2 := (call_back st1.cf st).seal n0 nB hH no
    exact h1 _ _ _ s2 ((ro.mono (FSame.upd nB)).freeze Fz.upd_same)
end
end Nc
namespace Nc
open PySem PySem.Spec PyProof.Rows L2
def asKey : D → Option Key
  | .int i => some (.inl i)
  | .str z => some (.inr z)
  | _ => none
theorem key_rep {K : PySem.W.Frag} {B : Fz} {d : D} {k : Key} {v : V} (e : asKey d = some k) (r : Rep K B d v) : v = kV k := by
  cases d <;> simp only [asKey, reduceCtorEq] at e
  · cases e
    exact rep_int r
  · cases e
    exact rep_str r
theorem valV_none {k : Key} : ∀ {ks : List Key} {xs : List V}, k ∉ ks → valV (ks.zip xs) k = none
  | [], xs, _ => by simp [valV]
  | j :: ks, [], _ => by simp [valV]
  | j :: ks, x :: xs, h => by
    rw [List.zip_cons_cons, valV_neg (fun e => h (by rw [← e]; exact List.mem_cons_self))]
    exact valV_none fun z => h (List.mem_cons_of_mem _ z)
/-- an item -/
def keyL (k : Key) : List Key → List D → Option D
  | j :: ks, d :: ds => if j = k then some d else keyL k ks ds
  | _, _ => none
theorem keyL_rep {K : PySem.W.Frag} {B : Fz} {k : Key} : ∀ {ks : List Key} {ds : List D} {xs : List V} {d : D}, Reps K B ds xs → keyL k ks ds = some d → ∃ v, valV (ks.zip xs) k = some v ∧ Rep K B d v
  | [], ds, xs, d, _, e => by simp [keyL] at e
  | j :: ks, [], xs, d, _, e => by simp [keyL] at e
  | j :: ks, d' :: ds, xs, d, r, e => by
    simp only [Reps] at r
    obtain ⟨x, xs', rfl, r1, r2⟩ := r
    simp only [keyL] at e
    rw [List.zip_cons_cons]
    by_cases h : j = k
    · rw [if_pos h] at e
      cases e
      exact ⟨x, valV_pos h, r1⟩
    · rw [if_neg h] at e
      obtain ⟨v, e1, e2⟩ := keyL_rep r2 e
      exact ⟨v, by rw [valV_neg h]; exact e1, e2⟩
def dgD (d e : D) : Option D := match d with
  | .dk ks ds => (asKey e).bind fun k => keyL k ks ds
  | _ => none
section
variable {X : Cx} {E : WX} {a b : Expr} {fa fb : M Opd} {pos : Pos}
theorem pk_dget (hu : X.A.units + 1 < cLine) (ha : PE X a (tK X.K E fa)) (hb : PE X b (tK X.K E fb)) (hs : NoSl b) : PE X (.Subscript a b pos) (tD X.K E (k2 dgD fa fb)) := by
  refine pe_weak (pe_dget hu ha hb hs) ?_
  rintro σ H Q ⟨B, ρ, c0, h⟩
  refine ⟨B, ρ, c0, h.seq.imp ?_⟩
  rintro d ρ' x B' H1 - - - ⟨o, B1, ρ1, st1, rx, h1⟩
  refine ⟨B1, ρ1, st1.cf, h1.seq.imp ?_⟩
  rintro e ρ' y B' H2 - - - ⟨u, B2, ρ2, st2, ry, h2⟩
  obtain ⟨d, e1, h3⟩ := h2.getO
  obtain ⟨e, e2, h4⟩ := h3.getO
  obtain ⟨z, ez, k⟩ := h4.opt
  have rx2 := (RK.mono (H0' := H2) st2 rx).top st2.cf e1
  have ry2 := RK.top st2.cf ry e2
  cases d <;> simp only [dgD, reduceCtorEq] at ez
  obtain ⟨p, xs, rfl, q1, q2, q3⟩ := rx2
  obtain ⟨kq, ek, ez⟩ := Option.bind_eq_some_iff.mp ez
  obtain ⟨v, l, r⟩ := keyL_rep q3 ez
  have ey : y = kV kq := by
    cases e <;> simp only [asKey, reduceCtorEq] at ek
    · cases ek
      exact rept_int ry2
    · cases ek
      exact rept_str ry2
  subst ey
  refine ⟨p, v, rfl, ?_, k _ _ _ (Step.refl st2.cf) r⟩
  have := DGet.k (k := kq) q1
  rw [l] at this
  exact this
end
/-- one turn -/
def turnK (bnd : D → M Unit) (tt : M Bool) (kx el : M D) (vs : List Nat) (d : D) : M (Option (Key × D)) := fun ρ =>
  match (bnd d >>= fun _ => tt >>= fun b => if b then kx >>= fun kd => M.opt (asKey kd) >>= fun k => el >>= fun z => M.ret (some (k, z)) else M.ret none) (wipeR ρ vs) with
  | .ok r ρ' => .ok r (mixR ρ ρ' vs)
  | _ => .no
def dcNext (go : List Key × List D → M (List Key × List D)) (ks : List Key) (acc : List D) : Option (Key × D) → M (List Key × List D)
  | none => go (ks, acc)
  | some (k, z) => if (ks.any fun j => decide (j = k)) = true then M.bad else go (ks ++ [k], acc ++ [z])
def dcLoop (bnd : D → M Unit) (tt : M Bool) (kx el : M D) (vs : List Nat) : List D → List Key × List D → M (List Key × List D)
  | [], acc => M.ret acc
  | d :: ds, (ks, acc) => if ks.length < sizeLine then turnK bnd tt kx el vs d >>= fun r => dcNext (dcLoop bnd tt kx el vs ds) ks acc r else M.bad
def dcM (src : M (List D)) (bnd : D → M Unit) (tt : M Bool) (kx el : M D) (vs : List Nat) : M O := src >>= fun ds => dcLoop bnd tt kx el vs ds ([], []) >>= fun out => M.ret (.dk out.1 out.2)
section
variable {K : PySem.W.Frag} {E : WX} {bnd : D → M Unit} {tt : M Bool} {kx el : M D} {vs ts : List Nat} {src : M (List D)}
theorem turnK_noex {d : D} {ρ : Rho} {x : Xn} {ρ' : Rho} : turnK bnd tt kx el vs d ρ ≠ .ex x ρ' := by
  unfold turnK
  split <;> simp only [ne_eq, reduceCtorEq, not_false_eq_true]
/-- the reading of a dict comprehension -/
theorem dc_read {wi : TI} {g : TG} {t : TT} {tk te : TE} (hts : ∀ i ∈ ts, i ∈ vs) (hx : ∀ d ρ x ρ', bnd d ρ ≠ .ex x ρ') (ki : ∀ σ H Q, tI K E src σ H Q → wi σ H Q) (kg : ∀ v σ H Q, gD K ts bnd v σ H Q → g v σ H Q) (kt : ∀ σ H Q, tT K EN tt σ H Q → t σ H Q) (kk : ∀ σ H Q, tD K EN kx σ H Q → tk σ H Q) (ke : ∀ σ H Q, tD K EN el σ H Q → te σ H Q) :
    ∀ σ H Q, tN K E (dcM src bnd tt kx el vs) σ H Q → tDc wi g t tk te vs σ H Q := by
  rintro σ H0 Q ⟨B0, ρ0, c0, h0⟩
  refine ki _ _ _ ⟨B0, ρ0, c0, h0.seq.imp ?_⟩
  rintro - - J - H1 - - - ⟨ds, B1, ρ1, st1, ys, h1⟩
  have ys : Yields K B1 J ds := ys
  intro L hL
  -- what holds ahead of turn i: the list so far at L, which no slot knows
  refine ⟨fun i m H => m = ds.length - i ∧ i ≤ ds.length ∧ ∃ (B : Fz) (ρ : Rho) (ks : List Key) (acc : List D) (xs : List V), Step K σ B1 H1 ρ1 σ B H ρ ∧ B L = none ∧ ¬ OwnA σ B ρ L ∧ H L = some (.dK (ks.zip xs)) ∧ ks.length = xs.length ∧ Reps K B acc xs ∧
      At K E (RN K) σ B1 H1 ρ1 Q ((dcLoop bnd tt kx el vs (ds.drop i) (ks, acc) >>= fun out => M.ret (O.dk out.1 out.2)) ρ),
    ⟨ds.length, by simp, Nat.zero_le _, B1, ρ1, [], [], [], (Step.refl st1.cf).pokeS hL (st1.cf.unfrozen hL) (own_not_new st1.cf hL) _, st1.cf.unfrozen hL, own_not_new st1.cf hL, upd_same, rfl, Reps.nil, h1⟩, ?_⟩
  rintro i m H ⟨rfl, hi, B, ρ, ks, acc, xs, st, nB, no, hH, hkl, ra, h⟩
  have c := st.cf
  have sB := st.bb
  by_cases hlt : i < ds.length
  · refine .inr ⟨ys.go i H hlt (sB.h.trans c.bh), fun H' => ∃ (B : Fz) (ρ : Rho) (ks : List Key) (acc : List D) (xs : List V), Step K σ B1 H1 ρ1 σ B H' ρ ∧ B L = none ∧ ¬ OwnA σ B ρ L ∧ H' L = some (.dK (ks.zip xs)) ∧ ks.length = xs.length ∧ Reps K B acc xs ∧
      At K E (RN K) σ B1 H1 ρ1 Q ((dcLoop bnd tt kx el vs (ds.drop (i + 1)) (ks, acc) >>= fun out => M.ret (O.dk out.1 out.2)) ρ), fun H' z => ⟨ds.length - (i + 1), by omega, rfl, hlt, z⟩, fun x H2 hy => ?_⟩
    have hd : ds[i]? = some ds[i] := List.getElem?_eq_getElem hlt
    rw [List.drop_eq_getElem_cons hlt] at h
    simp only [dcLoop] at h
    by_cases hz : ks.length < sizeLine
    · rw [if_pos hz] at h
      -- the item
      obtain ⟨B2, st2, rx⟩ : ∃ B2, Step K σ B H ρ σ B2 H2 ρ ∧ Rep K B2 ds[i] x := ys.item0 c sB hd hy
      -- what the turn gives
      have hturn : ∃ r ρ', turnK bnd tt kx el vs ds[i] ρ = .ok r ρ' := by
        cases e : turnK bnd tt kx el vs ds[i] ρ with
        | no =>
          have e2 : (turnK bnd tt kx el vs ds[i] >>= fun r => dcNext (dcLoop bnd tt kx el vs (ds.drop (i + 1))) ks acc r) ρ = .no := bnd_no e
          rw [bnd_no e2] at h
          exact h.elim
        | ex y ρ2 => exact absurd e turnK_noex
        | ok r ρ2 => exact ⟨r, ρ2, rfl⟩
      obtain ⟨r, ρ', er⟩ := hturn
      have h' : At K E (RN K) σ B1 H1 ρ1 Q ((dcNext (dcLoop bnd tt kx el vs (ds.drop (i + 1))) ks acc r >>= fun out => M.ret (O.dk out.1 out.2)) ρ') := by
        have e2 : (turnK bnd tt kx el vs ds[i] >>= fun r => dcNext (dcLoop bnd tt kx el vs (ds.drop (i + 1))) ks acc r) ρ = dcNext (dcLoop bnd tt kx el vs (ds.drop (i + 1))) ks acc r ρ' := bnd_ok er
        have e3 : ((turnK bnd tt kx el vs ds[i] >>= fun r => dcNext (dcLoop bnd tt kx el vs (ds.drop (i + 1))) ks acc r) >>= fun out => M.ret (O.dk out.1 out.2)) ρ = (dcNext (dcLoop bnd tt kx el vs (ds.drop (i + 1))) ks acc r >>= fun out => M.ret (O.dk out.1 out.2)) ρ' := by
          show M.bnd _ _ ρ = M.bnd _ _ ρ'
          unfold M.bnd
          rw [e2]
        rw [e3] at h
        exact h
      clear h
      unfold turnK at er
      split at er
      · rename_i r2 ρ3 eblk
        cases er
        -- through the block
        have cw : Cf K B2 H2 (wipe σ vs) (wipeR ρ vs) := st2.cf.wiped
        have noL2 : ∀ {B3 H3 σ3 ρ3}, Step K (wipe σ vs) B2 H2 (wipeR ρ vs) σ3 B3 H3 ρ3 → wipe σ3 vs = wipe σ vs → H3 L = some (.dK (ks.zip xs)) ∧ B3 L = none ∧ Step K σ B1 H1 ρ1 σ B3 H3 (mixR ρ ρ3 vs) ∧ ¬ OwnA σ B3 (mixR ρ ρ3 vs) L := fun {B3 H3 σ3 ρ3} s3 hw => by
          have h2L : H2 L = some (.dK (ks.zip xs)) := st2.keep L _ hH no
          have no2 : ¬ OwnA σ B ρ L := no
          have now : ¬ OwnA (wipe σ vs) B2 (wipeR ρ vs) L := fun ⟨j, z⟩ => (st2.own L ⟨j, (own_wipe z st2.cf.len).1⟩).elim no2 fun q => by
            rw [hH] at q
            cases q
          have b2L : B2 L = none := Classical.byContradiction fun y => by
            rcases st2.new L y nB with z | z | ⟨_, z⟩
            · rw [hH] at z
              cases z
            · exact no z
            · rw [hH] at z
              cases z
          have s4 := s3.unwiped st2.cf hw
          refine ⟨s3.keep L _ h2L now, Classical.byContradiction fun y => ?_, (st.trans st2).trans s4, fun z => ?_⟩
          · rcases s3.new L y b2L with z | z | ⟨_, z⟩
            · rw [h2L] at z
              cases z
            · exact now z
            · rw [h2L] at z
              cases z
          · rcases s4.own L z with q | q
            · exact (st2.own L q).elim no fun q => by
                rw [hH] at q
                cases q
            · rw [h2L] at q
              cases q
        cases e1 : bnd ds[i] (wipeR ρ vs) with
        | no =>
          rw [bnd_no e1] at eblk
          cases eblk
        | ex y ρ4 => exact absurd e1 (hx _ _ y ρ4)
        | ok u ρ4 =>
          rw [bnd_ok e1] at eblk
          refine kg _ _ _ _ ⟨B2, wipeR ρ vs, ds[i], cw, rx, ρ4, e1, fun σ3 B3 H3 s3 hl hj _ => ?_⟩
          have hw : wipe σ3 vs = wipe σ vs := wipe_same hts (by rw [hl, wipe_length]) hj
          refine ⟨hw, kt _ _ _ ⟨B3, ρ4, s3.cf, ?_⟩⟩
          cases e2 : tt ρ4 with
          | no =>
            rw [bnd_no e2] at eblk
            cases eblk
          | ex y ρ5 =>
            rw [bnd_ex e2] at eblk
            cases eblk
          | ok b ρ5 =>
            rw [bnd_ok e2] at eblk
            intro b' B4 H4 s4 rb
            have eb : b = b' := rb
            subst eb
            have hs4 := s3.trans s4
            cases b with
            | false =>
              simp only [Bool.false_eq_true, if_false] at eblk
              cases eblk
              refine iteF ?_
              obtain ⟨q1, q2, q3, q4⟩ := noL2 hs4 hw
              exact ⟨B4, _, ks, acc, xs, q3, q2, q4, q1, hkl, ra.mono (st2.bb.trans hs4.bb), h'⟩
            | true =>
              simp only [if_true] at eblk
              refine iteT (kk _ _ _ ⟨B4, ρ5, s4.cf, ?_⟩)
              cases e3 : kx ρ5 with
              | no =>
                rw [bnd_no e3] at eblk
                cases eblk
              | ex y ρ6 =>
                rw [bnd_ex e3] at eblk
                cases eblk
              | ok kd ρ6 =>
                rw [bnd_ok e3] at eblk
                intro yk B5 H5 s5 rk
                have rk : Rep K B5 kd yk := rk
                have hs5 := hs4.trans s5
                cases e4 : asKey kd with
                | none =>
                  have e5 : (M.opt (none : Option Key)) ρ6 = .no := rfl
                  rw [e4, bnd_no e5] at eblk
                  cases eblk
                | some kq =>
                  have e5 : (M.opt (some kq)) ρ6 = .ok kq ρ6 := rfl
                  rw [e4, bnd_ok e5] at eblk
                  refine ke _ _ _ ⟨B5, ρ6, s5.cf, ?_⟩
                  cases e6 : el ρ6 with
                  | no =>
                    rw [bnd_no e6] at eblk
                    cases eblk
                  | ex y ρ7 =>
                    rw [bnd_ex e6] at eblk
                    cases eblk
                  | ok z ρ7 =>
                    rw [bnd_ok e6] at eblk
                    cases eblk
                    intro y B6 H6 s6 ry
                    have ry : Rep K B6 z y := ry
                    have hs6 := hs5.trans s6
                    obtain ⟨q1, q2, q3, q4⟩ := noL2 hs6 hw
                    have ra6 := ra.mono (st2.bb.trans hs6.bb)
                    simp only [dcNext] at h'
                    by_cases hk : (ks.any fun j => decide (j = kq)) = true
                    · rw [if_pos hk] at h'
                      have e7 : ∀ ρx, (M.bad : M (List Key × List D)) ρx = .no := fun _ => rfl
                      rw [bnd_no (e7 _)] at h'
                      exact h'.elim
                    · rw [if_neg hk] at h'
                      have hk' : kq ∉ ks := fun m => hk (List.any_eq_true.mpr ⟨kq, m, decide_eq_true rfl⟩)
                      have ep : putK (ks.zip xs) kq y = (ks ++ [kq]).zip (xs ++ [y]) := by
                        rw [putK_new y (valV_none hk'), List.zip_append hkl]
                        rfl
                      refine ⟨ks.zip xs, kq, key_rep e4 rk, q1, by rw [List.length_zip]; omega, B6, _, ks ++ [kq], acc ++ [z], xs ++ [y], q3.pokeS hL q2 q4 _, q2, q4, by rw [upd_same, ep], by simp [hkl], ra6.append (Reps.cons ry Reps.nil), h'⟩
      · cases er
    · rw [if_neg hz] at h
      exact h.elim
  · have e : i = ds.length := by omega
    subst e
    rw [List.drop_length] at h
    refine .inl ⟨ys.stop H (sB.h.trans c.bh), ?_⟩
    exact h _ _ _ st ⟨L, _, rfl, hL, nB, hH, ⟨xs, rfl, hkl, ra⟩, no⟩
end
section
variable {X : Cx} {E : WX} {kxe elt tg iter : Expr} {ifs : List Expr} {scope : Scope} {own : List (Str × Nat)} {pos : Pos} {bnd : D → M Unit} {tt : M Bool} {kx el : M D} {ts : List Nat} {src : M (List D)}
theorem pn_dc (hc : X.calm = true) (hN : X.N.Nodup) (hi : PI X tg iter (tI X.K E src)) (ok : BlkOk X.N X.env.scope scope own) (hts : ∀ i ∈ ts, i ∈ own.map (·.2)) (hx : ∀ d ρ x ρ', bnd d ρ ≠ .ex x ρ')
    (hg : ∀ (s : Shared) (H : Hp) (C : Addr) (cl : List (Str × Addr)) (fp : List Addr), PG (X.blk s H scope (compEnvC scope cl C X.env) fp) tg (gD X.K ts bnd)) (ht : ∀ (s : Shared) (H : Hp) (C : Addr) (cl : List (Str × Addr)) (fp : List Addr), PTs (X.blk s H scope (compEnvC scope cl C X.env) fp) ifs (tT X.K EN tt))
    (hk : ∀ (s : Shared) (H : Hp) (C : Addr) (cl : List (Str × Addr)) (fp : List Addr), PE (X.blk s H scope (compEnvC scope cl C X.env) fp) kxe (tD X.K EN kx)) (he : ∀ (s : Shared) (H : Hp) (C : Addr) (cl : List (Str × Addr)) (fp : List Addr), PE (X.blk s H scope (compEnvC scope cl C X.env) fp) elt (tD X.K EN el)) (hs : ∀ x, foldedSetIterable iter X.env x = pure x := by intro _; rfl) :
    PE X (.DictComp kxe elt [⟨tg, iter, ifs, 0⟩] scope pos) (tN X.K E (dcM src bnd tt kx el (own.map (·.2)))) :=
  pe_weak (pe_dc hc hN hi ok hg ht hk he hs) (dc_read hts hx (fun _ _ _ h => h) (fun _ _ _ _ h => h) (fun _ _ _ h => h) (fun _ _ _ h => h) fun _ _ _ h => h)
end
end Nc
namespace Nc
open PySem PySem.Spec PyProof.Rows L2
/-- the signs of a text, each in a new pair with its place -/
def Itn (x : Str) : It := ⟨fun i _ => i < x.cps.size, fun i H v H' => ∃ T c, v = .ref T ∧ H T = none ∧ H' = upd H T (.tup [.int (i : Nat), .str ⟨#[c]⟩]) ∧ x.cps[i]? = some c, fun i _ => i = x.cps.size⟩
theorem turn_enumS {P : Program} {w : World} {K : PySem.W.Frag} {elts : List Expr} {kk : Nat} {tpos : Pos} (x : Str) (t : Tok) (e it : Addr) (ty : String) (hty : ty = "str_ascii_iterator" ∨ ty = "str_iterator") :
    Turn P w K (.Tuple elts kk tpos) (Itn x) [e, it] e (fun i h => (∃ old, IsEnum h e it ((i : Nat) : Int) old) ∧ h.IsStrIter it ty x t i ∧ e ≠ it) where
  mem := by simp
  obj := fun i h st b hb => by
    obtain ⟨⟨old, he⟩, ⟨o, ho, hc, hd⟩, _⟩ := st
    have e' : b = e ∨ b = it := by simpa using hb
    rcases e' with z | z
    · rw [z]; exact ⟨_, he, fun v q => nomatch q⟩
    · rw [z]; exact ⟨o, ho, fun v q => by rw [hd] at q; cases q⟩
  keep := fun i h h' st k => let ⟨⟨old, he⟩, ⟨o, ho, r⟩, hne⟩ := st; ⟨⟨old, k e (by simp) _ he⟩, ⟨o, k it (by simp) o ho, r⟩, hne⟩
  item := by
    intro X hP hw hK hc i pins s σ H E I hf st hg
    subst hP hw hK
    obtain ⟨⟨old, he⟩, hit, hne⟩ := st
    have D : Draws X.prog X.w X.A.in1 it [it] x.cps.size (SignAt x) (fun i h => h.IsStrIter it ty x t i) := by
      rcases hty with e | e
      · rw [e]; exact Draws.strAscii (A := X.A.in1) (show X.A.in1.handled = none from I.ok.hd hc) it x t
      · rw [e]; exact Draws.strWide (A := X.A.in1) (show X.A.in1.handled = none from I.ok.hd hc) it x t
    have hel : e < s.heap.objs.size := Heap.lt_size he
    have hil : it < s.heap.objs.size := by obtain ⟨_, q, _⟩ := hit; exact Heap.lt_size q
    refine wpAny_pyNext_enum_itemD D he hit (show i < x.cps.size from hg) hne (by simpa using hne) fun u h' tk hv ho hit' hT hsz hk => ?_
    obtain ⟨c, u0, hcx, rfl⟩ := hv
    refine ⟨_, rfl, wpAny_letOwnedTupleGo_enum (s := { s with heap := h', toks := tk + 1 }) ho fun h'' he' sb => ?_⟩
    have hT2 : h''.get? s.heap.objs.size = some { cls := .type "tuple", data := .seq #[.int i tk, .str ⟨#[c]⟩ u0] } := (sb.2 _ (Nat.ne_of_gt hel)).trans hT
    have new : ObjOk X.prog X.w (upd H s.heap.objs.size (.tup [.int (i : Nat), .str ⟨#[c]⟩])) h'' s.heap.objs.size (.tup [.int (i : Nat), .str ⟨#[c]⟩]) :=
      ⟨by show 2 ≤ sizeLine; decide, [.int i tk, .str ⟨#[c]⟩ u0], .cons ⟨_, rfl⟩ (.cons ⟨_, rfl⟩ .nil), ⟨_, hT2, rfl, _, rfl⟩⟩
    have I1 : Inv X pins σ (upd H s.heap.objs.size (.tup [.int (i : Nat), .str ⟨#[c]⟩])) { s with heap := h'', toks := tk + 1 } :=
      I.turnedNew (ch := [e, it]) (fun b ob hb q => (sb.2 b (fun z => hb (by simp [z]))).trans (hk b ob (fun z => hb (by simp [z])) (fun z => hb (by simp [z])) q)) hf (Nat.le_refl _) new
    refine ⟨.ref s.heap.objs.size, _, I1, rfl, ⟨_, c, rfl, I.hok.fresh (Nat.le_refl _), rfl, hcx⟩, ⟨⟨.str ⟨#[c]⟩ u0, ?_⟩, ?_, hne⟩, fun b hb => ?_⟩
    · have e1 : ((i + 1 : Nat) : Int) = (i : Int) + 1 := by omega
      rw [e1]; exact he'
    · obtain ⟨o, q1, q2⟩ := hit'
      exact ⟨o, (sb.2 it (Ne.symm hne)).trans q1, q2⟩
    · have hb' : b < s.heap.objs.size := by
        have e' : b = e ∨ b = it := by simpa using hb
        rcases e' with z | z
        · rw [z]; exact hel
        · rw [z]; exact hil
      rw [upd_ne (Nat.ne_of_lt hb')]
      exact (hf b hb).1
  done := by
    intro X hP hw hK hc i pins s σ H E I hf st hg
    subst hP hw hK
    obtain ⟨⟨old, he⟩, hit, hne⟩ := st
    have D : Draws X.prog X.w X.A.in1 it [it] x.cps.size (SignAt x) (fun i h => h.IsStrIter it ty x t i) := by
      rcases hty with e | e
      · rw [e]; exact Draws.strAscii (A := X.A.in1) (show X.A.in1.handled = none from I.ok.hd hc) it x t
      · rw [e]; exact Draws.strWide (A := X.A.in1) (show X.A.in1.handled = none from I.ok.hd hc) it x t
    have hg : i = x.cps.size := hg
    subst hg
    obtain ⟨f0, f1, f2, f3, f4, f5⟩ := hf it (by simp)
    exact wpAny_pyNext_enum_endD D he hit fun h' eb => ⟨rfl, I.turned (t' := s.toks) (fun b o hb q => eb b o hb q) f0 f1 f3 f4 f5⟩
  self := fun A i s Q E st h => let ⟨⟨_, he⟩, _⟩ := st; wpAny_pyIter_enum he h
/-- enumerate over a list or a text -/
def iEnumA (K : PySem.W.Frag) (ta : TA) : TI := fun σ H R => ta σ H fun vs H1 => (∃ a xs, vs = [.ref a] ∧ SqL K H1 a xs ∧ R (Ite K a) H1) ∨ ∃ x, vs = [.str x] ∧ R (Itn x) H1
theorem pi_enumA {X : Cx} {e : Expr} {ta : TA} {p pos tpos : Pos} {elts : List Expr} {kk : Nat} (hg : Gl X "enumerate") (hm : X.mg "enumerate" = none) (ha : PA X [e] ta) (hs : starEach [e] X.env = [(false, eval e X.env)] := by rfl) :
    PI X (.Tuple elts kk tpos) (.Call (.Name "enumerate" p) [e] [] pos) (iEnumA X.K ta) := by
  refine ⟨fun pins s σ H R I h => ?_⟩
  refine Call_ (ld_blt I hg hm boot_enumerate (PyProof.Rows.callWith_type1 (thn (ha.run pos pins s σ H _ I h) fun us s1 ⟨vs, H1, I1, r1, q1⟩ => ?_) hs rfl))
  rcases q1 with ⟨a, xs, ex, hq, q⟩ | ⟨x, ex, q⟩
  · subst ex
    cases r1 with
    | cons r rr =>
      cases rr
      cases r
      obtain ⟨its, rv, p', hz⟩ := I1.list hq
      refine call_enumerate_list p'.isList fun h' he hit hsz hk => wpAny_pyIter_enum he ?_
      have I2 : Inv X pins σ H1 { s1 with heap := h' } := I1.kept (t' := s1.toks) hk
      refine ⟨s1.heap.objs.size + 1, [s1.heap.objs.size + 1, s1.heap.objs.size], _, _, H1, rfl, I2, turn_enum a (s1.heap.objs.size + 1) s1.heap.objs.size, ⟨⟨.none, he⟩, hit, Nat.succ_ne_self _⟩, fun b hb => ?_, q⟩
      have e' : b = s1.heap.objs.size + 1 ∨ b = s1.heap.objs.size := by simpa using hb
      have hle : s1.heap.objs.size ≤ b := by
        rcases e' with z | z
        · rw [z]; exact Nat.le_add_right _ _
        · rw [z]; exact Nat.le_refl _
      exact I1.fpOk hle (I1.hok.fresh hle)
  · subst ex
    cases r1 with
    | cons r rr =>
      cases rr
      obtain ⟨t, rfl⟩ := r
      refine call_enumerate_str fun h' he hit hsz hk => wpAny_pyIter_enum he ?_
      have I2 : Inv X pins σ H1 { s1 with heap := h' } := I1.kept (t' := s1.toks) hk
      have hty : strIterType x = "str_ascii_iterator" ∨ strIterType x = "str_iterator" := by
        unfold strIterType
        split
        · exact .inl rfl
        · exact .inr rfl
      refine ⟨s1.heap.objs.size + 1, [s1.heap.objs.size + 1, s1.heap.objs.size], _, _, H1, rfl, I2, turn_enumS x t (s1.heap.objs.size + 1) s1.heap.objs.size (strIterType x) hty, ⟨⟨.none, he⟩, hit, Nat.succ_ne_self _⟩, fun b hb => ?_, q⟩
      have e' : b = s1.heap.objs.size + 1 ∨ b = s1.heap.objs.size := by simpa using hb
      have hle : s1.heap.objs.size ≤ b := by
        rcases e' with z | z
        · rw [z]; exact Nat.le_add_right _ _
        · rw [z]; exact Nat.le_refl _
      exact I1.fpOk hle (I1.hok.fresh hle)
def enumL (ds : List D) : List D := ds.mapIdx fun i d => .tup [.int (i : Nat), d]
theorem enumL_at {ds : List D} {i : Nat} {d : D} (h : (enumL ds)[i]? = some d) : ∃ e, ds[i]? = some e ∧ d = .tup [.int (i : Nat), e] := by
  unfold enumL at h
  rw [List.getElem?_mapIdx] at h
  obtain ⟨e, h1, h2⟩ := Option.map_eq_some_iff.mp h
  exact ⟨e, h1, h2.symm⟩
theorem enumL_len (ds : List D) : (enumL ds).length = ds.length := by
  unfold enumL
  rw [List.length_mapIdx]
section
variable {K : PySem.W.Frag} {B : Fz}
theorem yields_enum {a : Addr} {xs : List V} {ds : List D} (h : B a = some (.lst xs)) (r : Reps K B ds xs) : Yields K B (Ite K a) (enumL ds) where
  stop := fun H s => ⟨xs, SqL.of (s _ _ h), by rw [enumL_len, r.length]; exact Nat.le_refl _⟩
  go := fun i H hi s => by
    rw [enumL_len, r.length] at hi
    exact ⟨xs, xs[i], SqL.of (s _ _ h), List.getElem?_eq_getElem hi⟩
  yld := fun i d H x H' e s ⟨T, y, e1, e2, e3, e4⟩ => by
    obtain ⟨d', f1, f2⟩ := enumL_at e
    obtain ⟨v, g1, g2⟩ := r.get f1
    rw [e4 xs (SqL.of (s _ _ h))] at g1
    cases g1
    subst f2 e1
    refine .inr (.inl ⟨T, _, e2, e3, ?_⟩)
    have nb : B T = none := Classical.byContradiction fun y => by
      obtain ⟨o, q⟩ := Option.ne_none_iff_exists'.mp y
      rw [s _ _ q] at e2
      cases e2
    simp only [Rep]
    refine ⟨T, _, rfl, Fz.upd_same, Reps.cons (by simp only [Rep]) (Reps.cons (g2.mono (FSame.upd nb)) Reps.nil)⟩
theorem yields_enumS {z : Str} : Yields K B (Itn z) (enumL (signsL z)) where
  stop := fun H s => by
    show _ = z.cps.size
    rw [enumL_len]
    simp [signsL]
  go := fun i H hi s => by
    show i < z.cps.size
    rw [enumL_len] at hi
    simpa [signsL] using hi
  yld := fun i d H x H' e s ⟨T, c, e1, e2, e3, e4⟩ => by
    obtain ⟨d', f1, f2⟩ := enumL_at e
    unfold signsL at f1
    rw [List.getElem?_map, Array.getElem?_toList, e4] at f1
    cases f1
    subst f2 e1
    refine .inr (.inl ⟨T, _, e2, e3, ?_⟩)
    simp only [Rep]
    exact ⟨T, _, rfl, Fz.upd_same, Reps.cons (by simp only [Rep]) (Reps.cons (by simp only [Rep]) Reps.nil)⟩
end
def enD : D → Option (List D)
  | .lst ds => some (enumL ds)
  | .str z => some (enumL (signsL z))
  | _ => none
def enumI (f : M D) : M (List D) := f >>= fun d => M.opt (enD d)
section
variable {X : Cx} {E : WX} {a : Expr} {f : M D} {p pos tpos : Pos} {elts : List Expr} {kk : Nat}
theorem pi_enumD (hg : Gl X "enumerate") (hm : X.mg "enumerate" = none) (ha : PE X a (tD X.K E f)) (hs : starEach [a] X.env = [(false, eval a X.env)] := by rfl) (hs0 : starEach [a] X.env = (false, eval a X.env) :: starEach [] X.env := by rfl) :
    PI X (.Tuple elts kk tpos) (.Call (.Name "enumerate" p) [a] [] pos) (tI X.K E (enumI f)) := by
  refine pi_weak (pi_enumA hg hm (pa_cons ha pa_nil hs0) hs) ?_
  rintro σ H R ⟨B, ρ, c, h⟩
  refine ⟨B, ρ, c, h.seq.imp ?_⟩
  rintro d ρ' x B' H1 - - - ⟨d, B1, ρ1, st1, rx, h1⟩
  obtain ⟨es, ee, k⟩ := h1.opt
  have rx : Rep X.K B1 d x := rx
  cases d <;> simp only [enD, reduceCtorEq] at ee
  · cases ee
    have e := rep_str rx
    subst e
    exact .inr ⟨_, rfl, k _ _ _ (Step.refl st1.cf) yields_enumS⟩
  · cases ee
    simp only [Rep] at rx
    obtain ⟨p, xs, rfl, h1, h2⟩ := rx
    exact .inl ⟨p, xs, rfl, SqL.of (st1.cf.bh _ _ h1), k _ _ _ (Step.refl st1.cf) (yields_enum h1 h2)⟩
end
end Nc
namespace Nc
open PySem PySem.Spec PyProof.Rows L2
open ClX
section
variable {X : Cx} {E : WX} {x f : Str} {C : Addr} {mc u : Value} {pos p1 p2 p3 : Pos}
/-- C.f, a number -/
theorem pd_cval {i : Int} (hg : Gl X x) (hm : X.mg x = some (.ref C)) (r : CRead X.K C mc) (k : CVal X.K C mc f (.int i) u) (hd : (x == ("__debug__" : Str)) = false := by decide) (hb : attributeBase (.Name x p1) f X.env (eval (.Name x p1) X.env) = eval (.Name x p1) X.env := by rfl) : PE X (.Attribute (.Name x p1) f pos) (tD X.K E (M.ret (.int i))) := by
  refine pe_weak (pe_cval (pe_glob (v := .ref C) hg hm rfl hd) hb) fun σ H Q ⟨B, ρ, c0, h⟩ => ?_
  exact ⟨C, mc, _, u, rfl, r, k, h _ _ _ (Step.refl c0) (by show Rep X.K _ (.int i) _; simp only [Rep])⟩
def D.strs : List D → Option (List Str)
  | [] => some []
  | .str z :: ds => (D.strs ds).map (z :: ·)
  | _ => none
theorem strs_reps {K : PySem.W.Frag} {B : Fz} : ∀ {ds : List D} {zs : List Str} {xs : List V}, D.strs ds = some zs → Reps K B ds xs → xs = zs.map V.str
  | [], zs, xs, e, r => by
    simp only [D.strs, Option.some.injEq] at e
    subst e
    simp only [Reps] at r
    rw [r, List.map_nil]
  | d :: ds, zs, xs, e, r => by
    cases d <;> simp only [D.strs, reduceCtorEq] at e
    obtain ⟨ys, e1, rfl⟩ := Option.map_eq_some_iff.mp e
    simp only [Reps] at r
    obtain ⟨x, xs', rfl, r1, r2⟩ := r
    rw [strs_reps e1 r2, rep_str r1]
    rfl
def joinD : D → D → Option D
  | .str a, .lst ds => (D.strs ds).bind fun zs => if (zs.map (·.length)).sum + zs.length * a.length ≤ 16777216 then some (.str (Txt.join a zs)) else none
  | .str a, .tup ds => (D.strs ds).bind fun zs => if (zs.map (·.length)).sum + zs.length * a.length ≤ 16777216 then some (.str (Txt.join a zs)) else none
  | _, _ => none
def isSD : D → Option Unit
  | .str _ => some ()
  | _ => none
def joinM (fo fe : M D) : M D := fo >>= fun d => M.opt (isSD d) >>= fun _ => fe >>= fun e => M.opt (joinD d e)
theorem pd_join {o e : Expr} {fo fe : M D} (ho : PE X o (tD X.K E fo)) (he : PE X e (tD X.K E fe)) (hs : starEach [e] X.env = [(false, eval e X.env)] := by rfl) (hbase : attributeBase o "join" X.env (eval o X.env) = eval o X.env := by rfl) (hline : (p1.endLine == pos.line) = true := by rfl) :
    PE X (.Call (.Attribute o "join" p1) [e] [] pos) (tD X.K E (joinM fo fe)) := by
  refine pe_weak (pe_join ho he hs hbase hline) ?_
  rintro σ H Q ⟨B, ρ, c0, h⟩
  refine ⟨B, ρ, c0, h.seq.imp ?_⟩
  rintro d ρ' v B' H1 - - - ⟨d, B1, ρ1, st1, rx, h1⟩
  obtain ⟨u0, eu, h1⟩ := h1.optSeq
  refine ⟨by cases d <;> simp only [isSD, reduceCtorEq] at eu; exact ⟨_, rep_str (show Rep X.K B1 _ v from rx)⟩, ?_⟩
  refine ⟨B1, ρ1, st1.cf, h1.seq.imp ?_⟩
  rintro e ρ' y B' H2 - - - ⟨e, B2, ρ2, st2, ry, h2⟩
  obtain ⟨z, ez, k⟩ := h2.opt
  have rx : Rep X.K B2 d v := Rep.mono st2.bb rx
  have ry : Rep X.K B2 e y := ry
  cases d <;> try (simp only [joinD, reduceCtorEq] at ez; done)
  have e1 := rep_str rx
  subst e1
  cases e <;> simp only [joinD, reduceCtorEq] at ez
  · obtain ⟨zs, ezs, ez⟩ := Option.bind_eq_some_iff.mp ez
    split at ez
    · rename_i hz
      cases ez
      simp only [Rep] at ry
      obtain ⟨p, xs, rfl, q1, q2⟩ := ry
      have e2 := strs_reps ezs q2
      subst e2
      exact ⟨_, p, zs, rfl, rfl, .inr (Same.sqt st2.cf.bh q1), hz, k _ _ _ (Step.refl st2.cf) (by show Rep X.K _ (.str _) _; simp only [Rep])⟩
    · cases ez
  · obtain ⟨zs, ezs, ez⟩ := Option.bind_eq_some_iff.mp ez
    split at ez
    · rename_i hz
      cases ez
      simp only [Rep] at ry
      obtain ⟨p, xs, rfl, q1, q2⟩ := ry
      have e2 := strs_reps ezs q2
      subst e2
      exact ⟨_, p, zs, rfl, rfl, .inl (SqL.of (st2.cf.bh _ _ q1)), hz, k _ _ _ (Step.refl st2.cf) (by show Rep X.K _ (.str _) _; simp only [Rep])⟩
    · cases ez
theorem reps_rev {K : PySem.W.Frag} {B : Fz} : ∀ {ds : List D} {xs : List V}, Reps K B ds xs → Reps K B ds.reverse xs.reverse
  | [], xs, r => by
    simp only [Reps] at r
    subst r
    exact Reps.nil
  | d :: ds, xs, r => by
    simp only [Reps] at r
    obtain ⟨x, xs', rfl, r1, r2⟩ := r
    rw [List.reverse_cons, List.reverse_cons]
    exact (reps_rev r2).append (Reps.cons r1 Reps.nil)
def revO : D → Option O
  | .lst ds => some (.lst ds.reverse)
  | _ => none
end
end Nc
namespace Nc
open PySem PySem.Spec PyProof.Rows L2 StX
section
variable {X : Cx} {E : WX} {C g : Addr} {fe e : Expr} {es : List Expr} {fo : M D} {as : M (List D)} {F : Fn} {k : Nat} {fd : FuncData} {ps : List Str} {pos : Pos}
theorem run_callOS {sp : Sp} {W : L2.St → XK} {tf : TE} {t : TA} (hf : PE X fe tf) (c : CallO X.K C g) (G : FnOk X.prog X.w X.K X.mg X.base (L2.CX X.prog X.w) k g fd ps sp) (hr : Room k X.A) (hb : Binds X.K fd ps []) (hx : ∀ σ, PassesAt (L2.CX X.prog X.w) X σ (W σ)) (ha : PA X (e :: es) t)
    (ht : eval (.Call fe (e :: es) [] pos) X.env = (do callWith pos (← eval fe X.env) [] (backTo pos (starEach (e :: es) X.env)) (backToKw pos (keywordEach [] X.env))) := by rfl)
    (he : starEach (e :: es) X.env = (false, eval e X.env) :: starEach es X.env := by rfl) (hpl : (backTo pos (starEach es X.env)).any (·.1) = false := by rfl) :
    PE X (.Call fe (e :: es) [] pos) (fun σ H Q => tf σ H fun y H1 => ∃ a, y = V.ref a ∧ t σ H1 fun vs H2 => InsC X H2 a C ∧ sp (V.ref a :: vs) H2 Q (W σ)) := by
  refine ⟨fun pins s σ H Q I h => ?_⟩
  refine Call_ (thn (hf.run pins s σ H _ I h) fun u s1 ⟨y, H1, I1, ry, a, ey, q⟩ => ?_) ht
  subst ey
  obtain rfl : u = Value.ref a := ry
  refine callO_with (thn (ha.run pos pins s1 σ H1 _ I1 q) fun us s2 ⟨vs, H2, I2, r, hi, q2⟩ => ?_) he hpl
  obtain ⟨ox, od, J, hd⟩ := insC_at I2 hi
  refine ⟨⟨C, ox, od, J, hd⟩, ?_⟩
  have hl : (Value.ref a :: us).length = ps.length := by rw [← (show Vals (V.ref a :: vs) (Value.ref a :: us) from .cons rfl r).length]; exact G.len _ _ _ _ q2
  have b := hb s2 (Value.ref a :: us) I2.kIn (by rw [List.append_nil]; exact hl)
  rw [List.append_nil] at b
  refine wpAny_call (PySem.W.kco_code I2.kIn J hd c.at_ c.fn c.fi (codeAny_mono (G.run X.A X.stack s2 H2 ⟨Value.ref a :: us, []⟩ (Value.ref a :: us) (V.ref a :: vs) Q (W σ) hr I2.env0 b (.cons rfl r) q2) fun r s' hq => ?_))
  cases r with
  | error e => exact hx σ pins H2 s2 e s' I2 hq
  | ok fl =>
    cases fl with
    | ret u => exact I2.after hq
    | next => exact False.elim hq
    | brk => exact False.elim hq
    | cont => exact False.elim hq
/-- f(..), f an instance -/
def callOM (C : Addr) (F : Fn) (fo : M D) (as : M (List D)) : M D := fo >>= fun d => M.opt (isAdr d) >>= fun _ => as >>= fun ds => getO (.d d) >>= fun d0 => M.opt (isObD C d0) >>= fun _ => callF F (d :: ds)
where
  isAdr : D → Option Unit
  | .ob _ _ _ => some ()
  | .ptr _ => some ()
  | _ => none
theorem isAdr_rep {K : PySem.W.Frag} {B : Fz} {d : D} {x : V} {u : Unit} (r : Rep K B d x) (e : callOM.isAdr d = some u) : ∃ a, x = .ref a := by
  cases d <;> simp only [callOM.isAdr, reduceCtorEq] at e
  · simp only [Rep] at r
    obtain ⟨a, dx, xs, h, _⟩ := r
    exact ⟨a, h⟩
  · simp only [Rep] at r
    obtain ⟨a, h, _⟩ := r
    exact ⟨a, h⟩
theorem pd_callO (c : CallO X.K C g) (G : FnOk X.prog X.w X.K X.mg X.base (L2.CX X.prog X.w) k g fd ps (spD X.K F)) (hr : Room k X.A) (hb : Binds X.K fd ps []) (tk : Takes X E) (hf : PE X fe (tD X.K E fo)) (ha : PA X (e :: es) (tL X.K E as))
    (ht : eval (.Call fe (e :: es) [] pos) X.env = (do callWith pos (← eval fe X.env) [] (backTo pos (starEach (e :: es) X.env)) (backToKw pos (keywordEach [] X.env))) := by rfl)
    (he : starEach (e :: es) X.env = (false, eval e X.env) :: starEach es X.env := by rfl) (hpl : (backTo pos (starEach es X.env)).any (·.1) = false := by rfl) :
    PE X (.Call fe (e :: es) [] pos) (tD X.K E (callOM C F fo as)) := by
  refine pe_weak (run_callOS hf c G hr hb (fun σ => passAt tk σ) ha ht he hpl) ?_
  rintro σ H Q ⟨B, ρ, c0, h⟩
  refine ⟨B, ρ, c0, h.seq.imp ?_⟩
  rintro d ρ' x B' H1 - - - ⟨d, B1, ρ1, st1, rx, h1⟩
  have rx : Rep X.K B1 d x := rx
  obtain ⟨u, eu, h2⟩ := h1.optSeq
  obtain ⟨a, rfl⟩ := isAdr_rep rx eu
  refine ⟨a, rfl, B1, ρ1, st1.cf, h2.seq.imp ?_⟩
  rintro d2 ρ' vs B' H2 - - - ⟨ds, B2, ρ2, st2, ra, h3⟩
  have ra : Reps X.K B2 ds vs := ra
  obtain ⟨d0, e1, h4⟩ := h3.getO
  obtain ⟨u2, ez, h5⟩ := h4.optSeq
  have rx2 := rx.mono st2.bb
  obtain ⟨a', dx, fs, ex, q1⟩ := isOb_top (RK.top (H0 := H2) st2.cf (o := .d d) rx2 e1) ez
  cases ex
  exact ⟨.inr ⟨dx, fs, q1⟩, call_core st2.cf (Reps.cons rx2 ra) h5⟩
end
end Nc
namespace Nc
open PySem PySem.Spec PyProof.Rows L2 StX
open PySem.W in
theorem contains_own {K : PySem.W.Frag} {M : Model} {A : Around} {E : Value → Shared → Prop} {s : Shared} {x C f : Addr} {ox : Obj} {od : Option Obj} {v : Value} {Q : Bool → Shared → Prop} (X : K.In s.heap) (I : InstAt s.heap x ox C od) (hs : findIn K (.ref C) "__contains__" = some (some (.ref f))) (hf : typeIn K (.ref f) = some (.type "function"))
    (h : wpAny M A (call (.ref f) [.ref x, v]) (fun r s' => wpAny M A (truthy r) Q E s') E s) : wpAny M A (contains (.ref x) v) Q E s := by
  unfold contains
  refine wpAny_holding ?_
  show wpAny M A (specialOf (.ref x) "__contains__" >>= _) Q E s
  refine wpAny_bind (wpAny_bind (I.type.here ((looks_findIn X hs).here ?_)))
  show wpAny M A (if (some (Value.ref f) == some Value.none) = true then _ else _) Q E s
  rw [if_neg (by simp)]
  show wpAny M A (callSpecialUnlessNone? (.ref x) "__contains__" [v] _ >>= _) Q E s
  refine wpAny_bind (wpAny_bind (wpAny_bind (I.type.here ((looks_findIn X hs).here (wpAny_holding (wpAny_bind ((bind_fn X _ hf).here ?_)))))))
  show wpAny M A (if (Value.ref f == Value.none) = true then _ else _) _ E s
  rw [if_neg (by simp)]
  exact wpAny_bind (wpAny_mono h (fun r s' hr => wpAny_pure hr) fun _ _ z => z)
section
variable {X : Cx} {E : WX} {C f : Addr} {fd : FuncData} {ps : List Str} {sp : Sp} {k : Nat} {a o : Expr} {fa fo : M D} {F : Fn} {pos : Pos}
def inF (F : Fn) (d e : D) : M D := fun ρ => match F [d, e] ρ.g with
  | .ok (.bl b) g => .ok (.bl b) ⟨ρ.l, g⟩
  | _ => .no
def inOM (C : Addr) (F : Fn) (fa fo : M D) : M D := fa >>= fun e => fo >>= fun d => getO (.d d) >>= fun d0 => M.opt (isObD C d0) >>= fun _ => inF F d e
end
end Nc
namespace Nc
open PySem PySem.Spec PyProof.Rows L2
def signsV (z : Str) : List V := z.cps.toList.map fun c => .str ⟨#[c]⟩
theorem signs_reps {K : PySem.W.Frag} {B : Fz} (z : Str) : Reps K B (signsL z) (signsV z) := by
  unfold signsL signsV
  generalize z.cps.toList = cs
  induction cs with
  | nil => exact Reps.nil
  | cons c cs ih => exact Reps.cons (by simp only [Rep]) ih
theorem signsV_len (z : Str) : (signsV z).length = z.cps.size := by simp [signsV]
section
variable {X : Cx}
theorem call_list_txt (hc : X.calm = true) : CallR X (.type "list") (fun xs H Q => ∃ z, xs = [V.str z] ∧ z.cps.size ≤ sizeLine ∧ ∀ l, H l = none → Q (.ref l) (upd H l (.lst (signsV z)))) := by
  intro pins s σ H xs us Q I r h
  obtain ⟨z, rfl, hz, q⟩ := h
  obtain ⟨u, rfl, rx⟩ := vals1 r
  obtain ⟨t, rfl⟩ := rx
  refine call_list_str (I.ok.hd hc) z t (fun h' tk acc c' hk e hi => ?_) hz
  refine ⟨.ref s.heap.objs.size, upd H s.heap.objs.size (.lst (signsV z)), I.laid hk (Nat.le_refl _) (show ObjOk X.prog X.w _ _ _ (.lst (signsV z)) from ⟨by rw [signsV_len]; exact hz, acc.toList, c', ?_, ?_⟩), rfl, q _ (I.hok.fresh (Nat.le_refl _))⟩
  · have el : acc.toList.length = acc.size := by simp
    refine vals_of_at (by rw [signsV_len, el, hi.1]) fun j x w h1 h2 => ?_
    obtain ⟨c, u, hcx, rfl⟩ := hi.2 j w (by rw [← Array.getElem?_toList]; exact h2)
    unfold signsV at h1
    rw [List.getElem?_map, Array.getElem?_toList, hcx] at h1
    cases h1
    exact ⟨u, rfl⟩
  · rw [Array.toArray_toList]; exact e
/-- list(..) of a list, a tuple, a text -/
def listTO : D → Option O
  | .lst ds => some (.lst ds)
  | .tup ds => some (.lst ds)
  | .str z => if z.cps.size ≤ sizeLine then some (.lst (signsL z)) else none
  | _ => none
theorem c1_listT {K : PySem.W.Frag} : Call1N K (fun xs H Q => (∃ p ys, xs = [.ref p] ∧ (SqL K H p ys ∨ SqT K H p ys) ∧ ∀ l, H l = none → Q (.ref l) (upd H l (.lst ys))) ∨ ∃ z, xs = [V.str z] ∧ z.cps.size ≤ sizeLine ∧ ∀ l, H l = none → Q (.ref l) (upd H l (.lst (signsV z)))) listTO := by
  intro B H σ ρ d z x Q c rx ez k
  cases d <;> simp only [listTO, reduceCtorEq] at ez
  · have e := rept_str rx
    subst e
    split at ez
    · rename_i hz
      cases ez
      exact .inr ⟨_, rfl, hz, fun l hl => k _ _ _ (c.free hl _) (new_lst c (fun _ z => z) hl (signs_reps _))⟩
    · cases ez
  · obtain ⟨p, xs, rfl, h1, h2⟩ := rx
    cases ez
    exact .inl ⟨p, xs, rfl, .inr (SqT.of h1), fun l hl => k _ _ _ (c.free hl _) (new_lst c (fun _ z => z) hl h2)⟩
  · obtain ⟨p, xs, rfl, h1, h2⟩ := rx
    cases ez
    exact .inl ⟨p, xs, rfl, .inl (SqL.of h1), fun l hl => k _ _ _ (c.free hl _) (new_lst c (fun _ z => z) hl h2)⟩
end
end Nc
namespace Nc
open PySem PySem.Spec PyProof.Rows L2
theorem adj_back (n : Nat) : Builtin.Slice.sliceAdjust none none (-1) (n : Int) = ((n : Int) - 1, -1) := rfl
theorem places_back (n : Nat) : Builtin.Slice.slicePlaces ((n : Int) - 1) (-1) (-1) = n := by
  unfold Builtin.Slice.slicePlaces
  rw [if_neg (show ¬ (-1 : Int) > 0 by decide), show -(-1 : Int) = 1 from rfl, Int.ediv_one]
  split <;> omega
theorem fm_some {α β : Type} {f : α → Option β} {k : α → β} : ∀ {l : List α}, (∀ x ∈ l, f x = some (k x)) → l.filterMap f = l.map k
  | [], _ => rfl
  | x :: l, h => by
    rw [List.filterMap_cons, h x List.mem_cons_self, fm_some fun y hy => h y (List.mem_cons_of_mem _ hy)]
    rfl
theorem pick_back (xs : Array Value) : (List.range xs.size).filterMap (fun (m : Nat) => xs[((xs.size : Int) - 1 + (m : Int) * -1).toNat]?) = xs.toList.reverse := by
  rw [fm_some (k := fun m => xs.getD (xs.size - 1 - m) .none) fun m hm => by
    have := List.mem_range.mp hm
    have hj : xs.size - 1 - m < xs.size := by omega
    rw [show ((xs.size : Int) - 1 + (m : Int) * -1).toNat = xs.size - 1 - m by omega]
    simp [Array.getD, hj]]
  refine List.ext_getElem (by simp) fun i h1 h2 => ?_
  have hi : i < xs.size := by simpa using h1
  have hj : xs.size - 1 - i < xs.size := by omega
  simp [Array.getD, hj]
section
variable {prog : Program} {w : World} {A : Around} {E : Value → Shared → Prop} {s : Shared} {t sl : Addr} {items : Array Value} {vl vu vs : Value}
theorem applied_back {n : Nat} {Q : Int × Int × Nat → Shared → Prop} (hs : s.heap.IsSliceOf sl vl vu vs) (pl : IsPart vl none) (pu : IsPart vu none) (ps : IsPart vs (some (-1))) (h : Q ((n : Int) - 1, -1, n) s) :
    wpAny (model prog w) A (Builtin.Slice.sliceApplied (.ref sl) (pure (n : Int))) Q E s := by
  obtain ⟨o, h1, _, h2⟩ := id hs
  unfold Builtin.Slice.sliceApplied Builtin.Slice.sliceFields
  refine wpAny_bind (wpAny_bind (wpAny_field h1 h2 (x := vl) rfl ?_))
  refine wpAny_bind (wpAny_field h1 h2 (x := vu) rfl (wpAny_bind (wpAny_field h1 h2 (x := vs) rfl (wpAny_pure (wpAny_bind (HT.slicePart_ ps ?_))))))
  show wpAny _ _ (if ((-1 : Int) == 0) = true then _ else _) _ _ s
  rw [if_neg (show ¬ (((-1 : Int) == 0) = true) by decide)]
  refine wpAny_bind (HT.slicePart_ pl (wpAny_bind (HT.slicePart_ pu (wpAny_bind (wpAny_pure ?_)))))
  show wpAny _ _ (match Builtin.Slice.sliceAdjust none none (-1) (n : Int) with | (a, b) => pure (a, (-1 : Int), Builtin.Slice.slicePlaces a b (-1))) _ _ s
  rw [adj_back]
  show wpAny _ _ (pure ((n : Int) - 1, (-1 : Int), Builtin.Slice.slicePlaces ((n : Int) - 1) (-1) (-1))) _ _ s
  rw [places_back]
  exact wpAny_pure h
theorem tuple_back {Q : Value → Shared → Prop} (ht : IsTup s.heap t items) (hs : s.heap.IsSliceOf sl vl vu vs) (pl : IsPart vl none) (pu : IsPart vu none) (ps : IsPart vs (some (-1))) (hz : items.size ≤ sizeLine)
    (h : Q (.ref s.heap.objs.size) { s with heap := s.heap.push { cls := .type "tuple", data := .seq items.toList.reverse.toArray } }) : wpAny (model prog w) A (getItem (.ref t) (.ref sl)) Q E s := by
  have hfit : sizeOk (.seq items.toList.reverse.toArray) := by
    show items.toList.reverse.toArray.size ≤ sizeLine
    simpa using hz
  have hT : s.TypeIs (.ref sl) "slice" := by
    obtain ⟨o, h1, h2, _⟩ := id hs
    exact ⟨o, h1, h2⟩
  have made : ∀ {R : Value → Shared → Prop}, R (.ref s.heap.objs.size) { s with heap := s.heap.push { cls := .type "tuple", data := .seq items.toList.reverse.toArray } } → wpAny (model prog w) A.in1 (Builtin.«tuple.__getitem__» ⟨[.ref t, .ref sl], []⟩) (fun f s' => ∃ v, f = .done (.ret v) ∧ R v s') E s := fun {R} q => by
    show wpAny _ _ (Builtin.Tuple.tupleItemsOf (.ref t) >>= _) _ _ s
    refine wpAny_bind (tupleItemsOf_ ht (wpAny_bind (wpAny_typeOf hT ?_)))
    rw [if_pos (show ((Value.type "slice") == (Value.type "slice")) = true by decide)]
    refine wpAny_bind (applied_back hs pl pu ps ?_)
    show wpAny _ _ (if (((items.size : Int) - 1) == 0 && (-1 : Int) == 1 && items.size == items.size) = true then _ else _) _ _ s
    rw [if_neg (by rw [show ((-1 : Int) == 1) = false by decide, Bool.and_false, Bool.false_and]; exact Bool.false_ne_true), pick_back]
    have t1 : ∀ {R' : Value → Shared → Prop}, R' (.ref s.heap.objs.size) { s with heap := s.heap.push { cls := .type "tuple", data := .seq items.toList.reverse.toArray } } → wpAny (model prog w) A.in1 (Builtin.Tuple.tupleExact items.toList.reverse.toArray) R' E s := fun {R'} z => wpAny_newObj_type z hfit
    exact wpAny_bind (t1 (wpAny_pure ⟨_, rfl, q⟩))
  have step : wpAny (model prog w) A (callSpecial? (.ref t) "__getitem__" [.ref sl]) (fun o s' => ∃ v, o = some v ∧ Q v s') E s := by
    refine wpAny_callSpecial?_slot ht.typeIs PyProof.Rows.slot_tuple_getitem (wpAny_call_entry PyProof.Rows.slot_tuple_getitem ht.typeIs PyProof.Rows.entry_tuple_getitem (made ?_) (PyProof.Rows.args_tuple_getitem _ _))
    exact ⟨_, rfl, h⟩
  unfold getItem
  try with_reducible refine wpAny_holding ?_
  refine wpAny_bind (wpAny_sequenceKey ht.typeIs (by decide) (wpAny_bind (wpAny_mono step (fun o s' z => ?_) fun _ _ e => e)))
  obtain ⟨v, rfl, q⟩ := z
  exact wpAny_pure q
end
end Nc
namespace Nc
open PySem PySem.Spec PyProof.Rows L2
def revS (z : Str) : Str := ⟨z.cps.toList.reverse.toArray⟩
theorem revS_pick (z : Str) : ((PySem.Builtin.Str.strSliceIndices none none (-1) z.length).filterMap (z.cps[·]?)).toArray = (revS z).cps := by
  have h : (PySem.Builtin.Str.strSliceIndices none none (-1) z.length).filterMap (z.cps[·]?) = z.cps.toList.reverse := by
    rw [picked_rev, filterMap_get, List.map_map]
    · refine List.ext_getElem (by simp [Str.length]) fun i h1 h2 => ?_
      have hi : i < z.cps.size := by simpa [Str.length] using h1
      simp only [List.getElem_map, List.getElem_range, Function.comp_def, List.getElem_reverse, Array.getElem_toList, Array.length_toList]
      have hj : z.length - 1 - i < z.cps.size := by show z.cps.size - 1 - i < z.cps.size; omega
      have e : z.cps.getD (z.length - 1 - i) 0 = z.cps[z.length - 1 - i] := by simp [Array.getD, hj]
      rw [e]
      rfl
    · intro i hi
      obtain ⟨k, hk, rfl⟩ := List.mem_map.mp hi
      have hk' : k < z.length := List.mem_range.mp hk
      show z.length - 1 - k < z.length
      omega
  rw [h]
  rfl
theorem revS_len (z : Str) : (revS z).length = z.length := by simp [revS, Str.length]
def tRevA (K : PySem.W.Frag) (te : TE) : TE := fun σ H Q => te σ H fun x H1 => (∃ a xs, x = .ref a ∧ SqL K H1 a xs ∧ ∀ p, H1 p = none → Q (.ref p) (upd H1 p (.lst xs.reverse))) ∨ (∃ a xs, x = .ref a ∧ SqT K H1 a xs ∧ ∀ p, H1 p = none → Q (.ref p) (upd H1 p (.tup xs.reverse))) ∨ ∃ z, x = .str z ∧ z.length ≤ sizeLine ∧ Q (.str (revS z)) H1
section
variable {X : Cx} {e : Expr} {te : TE} {k : Nat} {p1 p2 p3 pos : Pos}
theorem pe_revA (he : PE X e te) : PE X (.Subscript e (.Slice none none (some (.UnaryOp .USub (.Constant (.int 1) k p1) p2)) p3) pos) (tRevA X.K te) := by
  refine ⟨fun pins s σ H Q I h => ?_⟩
  refine Subscript_ (thn (he.run pins s σ H _ I h) fun v s1 ⟨x, H1, I1, r1, q1⟩ => ?_)
  have hst : PO X (some (.UnaryOp .USub (.Constant (.int 1) k p1) p2)) (tPart (tUn (rU fun i => .int (-i)) (tC (.int 1)))) := po_some (pe_un un_neg pe_int)
  refine wpAny_Slice (thn (po_none.run pins s1 σ H1 (fun o H2 => o = none ∧ H2 = H1) I1 ⟨rfl, rfl⟩) fun vl s2 ⟨l, H2, I2, pl, el, e2⟩ => ?_)
  subst el e2
  refine thn (po_none.run pins s2 σ H2 (fun o H3 => o = none ∧ H3 = H2) I2 ⟨rfl, rfl⟩) fun vu s3 ⟨u, H3, I3, pu, eu, e3⟩ => ?_
  subst eu e3
  refine thn (hst.run pins s3 σ H3 (fun o H4 => o = some (-1) ∧ H4 = H3) I3 ⟨1, rfl, -1, rfl, rfl, rfl⟩) fun vs s4 ⟨o, H4, I4, ps, eo, e4⟩ => ?_
  subst eo e4
  have I5 : Inv X pins σ H4 { s4 with heap := s4.heap.push { cls := .type "slice", data := .fields #[vl, vu, vs] } } := I4.kept (t' := s4.toks) fun b ob q => Heap.get?_push_of_some _ q
  rcases q1 with ⟨a, xs, ex, hx, q⟩ | ⟨a, xs, ex, hx, q⟩ | ⟨z, ex, hz, q⟩
  · subst ex
    cases r1
    obtain ⟨its, r, ht, hz⟩ := I5.list hx
    have hlen := r.length
    show wpAny (model X.prog X.w) X.A (subscriptTail e (.Slice none none (some (.UnaryOp .USub (.Constant (.int 1) k p1) p2)) p3) (.ref a) (.ref s4.heap.objs.size)) (EP X pins σ Q) X.xe { s4 with heap := s4.heap.push { cls := .type "slice", data := .fields #[vl, vu, vs] } }
    refine tail_any (ops := [.ref a, .ref s4.heap.objs.size]) ht.isList.typeIs (PySem.slot_list_getitem.lookup) ?_ (by with_unfolding_all rfl)
    refine wpAny_getItem_list_slice ht.isList (Heap.IsSliceOf.new _ vl vu vs) pl pu ps (by decide) ?_ (by rw [List.size_toArray]; omega)
    rw [PySem.W.krv_pick]
    refine ⟨.ref _, _, I5.laid (t' := s4.toks) (o := .lst xs.reverse) (fun b ob q => Heap.get?_push_of_some _ q) (Nat.le_refl _) ?_, rfl, q _ (I5.hok.fresh (Nat.le_refl _))⟩
    exact ⟨by rw [List.length_reverse]; exact hz, _, 0, r.reverse, Heap.get?_push_size _ rfl⟩
  · subst ex
    cases r1
    obtain ⟨its, r, ht, hz⟩ := I5.tuple hx
    have hlen := r.length
    show wpAny (model X.prog X.w) X.A (subscriptTail e (.Slice none none (some (.UnaryOp .USub (.Constant (.int 1) k p1) p2)) p3) (.ref a) (.ref s4.heap.objs.size)) (EP X pins σ Q) X.xe { s4 with heap := s4.heap.push { cls := .type "slice", data := .fields #[vl, vu, vs] } }
    refine tail_any (ops := [.ref a, .ref s4.heap.objs.size]) ht.typeIs (PyProof.Rows.slot_tuple_getitem.lookup) ?_ (by with_unfolding_all rfl)
    refine tuple_back ht (Heap.IsSliceOf.new _ vl vu vs) pl pu ps (by rw [List.size_toArray]; omega) ?_
    exact ⟨.ref _, _, I5.laid (t' := s4.toks) (o := .tup xs.reverse) (fun b ob q => Heap.get?_push_of_some _ q) (Nat.le_refl _) ⟨by rw [List.length_reverse]; exact hz, _, r.reverse, IsTup.new _ _⟩, rfl, q _ (I5.hok.fresh (Nat.le_refl _))⟩
  · subst ex
    obtain ⟨t, rfl⟩ := r1
    obtain ⟨l, rfl, el⟩ := IsPart.raw pl
    obtain ⟨u, rfl, eu⟩ := IsPart.raw pu
    obtain ⟨st, rfl, es⟩ := IsPart.raw ps
    show wpAny (model X.prog X.w) X.A (subscriptTail e (.Slice none none (some (.UnaryOp .USub (.Constant (.int 1) k p1) p2)) p3) (.str z t) (.ref s4.heap.objs.size)) (EP X pins σ Q) X.xe _
    refine tail_any (ops := [.str z t, .ref s4.heap.objs.size]) (typeIs_str _ _ _) (F.slot_str_getitem.lookup) ?_ (by with_unfolding_all rfl)
    have hs1 : (st.map (·.1)).getD 1 = -1 := by first | (rw [← es]; rfl) | (rw [es]; rfl)
    refine wpAny_getItem_str_slice (l := l) (u := u) (st := st) ⟨_, Heap.get?_push_size _ rfl, rfl, rfl⟩ (by rw [hs1]; rfl) ?_
    have hl0 : l.map (·.1) = none := by first | exact el | exact el.symm
    have hu0 : u.map (·.1) = none := by first | exact eu | exact eu.symm
    have hp : slicePicked z l u st = PySem.Builtin.Str.strSliceIndices none none (-1) z.length := by
      unfold slicePicked
      rw [hl0, hu0, hs1]
    unfold sliceMade
    rw [hs1, hp, if_neg (by simp), revS_pick]
    exact ⟨by show (revS z).length ≤ sizeLine; rw [revS_len]; exact hz, .str _, H4, I5.tok _, ⟨_, rfl⟩, q⟩
def revD : D → Option D
  | .lst ds => some (.lst ds.reverse)
  | .tup ds => some (.tup ds.reverse)
  | .str z => if z.length ≤ sizeLine then some (.str (revS z)) else none
  | _ => none
theorem pk_revA {E : WX} {fa : M Opd} (he : PE X e (tK X.K E fa)) : PE X (.Subscript e (.Slice none none (some (.UnaryOp .USub (.Constant (.int 1) k p1) p2)) p3) pos) (tD X.K E (k1 revD fa)) := by
  refine pe_weak (pe_revA he) ?_
  rintro σ H Q ⟨B, ρ, c0, h⟩
  refine ⟨B, ρ, c0, h.seq.imp ?_⟩
  rintro d ρ' x B' H1 - - - ⟨o, B1, ρ1, st1, rx, h1⟩
  obtain ⟨d, e1, h2⟩ := h1.getO
  obtain ⟨z, ez, k⟩ := h2.opt
  have top := RK.top st1.cf rx e1
  cases d <;> simp only [revD, reduceCtorEq] at ez
  · have e := rept_str top
    subst e
    split at ez
    · rename_i hz
      cases ez
      exact .inr (.inr ⟨_, rfl, hz, k _ _ _ (Step.refl st1.cf) (by show Rep X.K _ (.str _) _; simp only [Rep])⟩)
    · cases ez
  · cases ez
    obtain ⟨a, xs, rfl, q1, q2⟩ := top
    refine .inr (.inl ⟨a, xs, rfl, SqT.of q1, fun p hp => ?_⟩)
    have s2 := st1.cf.laid hp (.tup xs.reverse)
    refine k _ _ _ s2 ?_
    show Rep X.K _ (.tup _) _
    simp only [Rep]
    exact ⟨p, _, rfl, Fz.upd_same, (reps_rev q2).mono s2.bb⟩
  · cases ez
    obtain ⟨a, xs, rfl, q1, q2⟩ := top
    refine .inl ⟨a, xs, rfl, SqL.of q1, fun p hp => ?_⟩
    have s2 := st1.cf.laid hp (.lst xs.reverse)
    refine k _ _ _ s2 ?_
    show Rep X.K _ (.lst _) _
    simp only [Rep]
    exact ⟨p, _, rfl, Fz.upd_same, (reps_rev q2).mono s2.bb⟩
end
end Nc
namespace PySem
open Sem (wp)
abbrev NcStrIt (x : Str) (t : Tok) : Obj := { cls := .type (strIterType x), data := .fields #[.str x t, .int 0 0] }
abbrev ncZ1 (h : Heap) (x : Str) (t : Tok) : Heap := h.push (NcStrIt x t)
abbrev ncZ2 (h : Heap) (x : Str) (t : Tok) (y : Str) (u : Tok) : Heap := (ncZ1 h x t).push (NcStrIt y u)
abbrev ncZ3 (h : Heap) (x : Str) (t : Tok) (y : Str) (u : Tok) : Heap := (ncZ2 h x t y u).push { cls := .type "tuple", data := .seq #[.ref h.objs.size, .ref (ncZ1 h x t).objs.size] }
abbrev ncZ4 (h : Heap) (x : Str) (t : Tok) (y : Str) (u : Tok) : Heap := (ncZ3 h x t y u).push { cls := .type "tuple", data := .seq #[.none, .none] }
abbrev ncZ5 (h : Heap) (x : Str) (t : Tok) (y : Str) (u : Tok) : Heap := (ncZ4 h x t y u).push { cls := .type "zip", data := .fields #[.none, .bool false, .bool false, .ref (ncZ2 h x t y u).objs.size, .ref (ncZ3 h x t y u).objs.size] }
theorem nc_meets_zipS (x y : Str) (t u : Tok) :
    Meets (Builtin.«zip.__new__» ⟨[.type "zip", .str x t, .str y u], []⟩) (fun _ R s => R (.ok (.ret (.ref (ncZ4 s.heap x t y u).objs.size))) { s with heap := ncZ5 s.heap x t y u }) :=
  .of_wp fun prog w A R s h => by
    obtain ⟨hp, g, d, tk, os⟩ := s
    have hsub := sub_zip
    wp_walk using wpAny_pyIter_strU
    exact ⟨_, rfl, h⟩
section
variable {prog : Program} {w : World} {A : Around} {E : Value → Shared → Prop} {s : Shared}
theorem nc_call_zipS {x y : Str} {t u : Tok} {Q : Value → Shared → Prop}
    (h : ∀ h', IsZip h' (s.heap.objs.size + 4) (s.heap.objs.size + 2) (s.heap.objs.size + 3) .none → IsPair h' (s.heap.objs.size + 2) (.ref s.heap.objs.size) (.ref (s.heap.objs.size + 1)) →
      IsPair h' (s.heap.objs.size + 3) .none .none → h'.IsStrIter s.heap.objs.size (strIterType x) x t 0 → h'.IsStrIter (s.heap.objs.size + 1) (strIterType y) y u 0 → h'.objs.size = s.heap.objs.size + 5 →
      (∀ c o, s.heap.get? c = some o → h'.get? c = some o) → Q (.ref (s.heap.objs.size + 4)) { s with heap := h' }) :
    wpAny (model prog w) A (call (.type "zip") [.str x t, .str y u]) Q E s := by
  refine callType_new F.called_zip (by decide) (F.typeCall_zip_2 _ _) (F.newCall_zip_2 _ _) (fun obj => F.args_object_init_3 obj _ _) F.entry_zip_new
    (nc_meets_zipS x y t u) ?_
  have z1 : (ncZ1 s.heap x t).objs.size = s.heap.objs.size + 1 := Heap.size_push ..
  have z2 : (ncZ2 s.heap x t y u).objs.size = s.heap.objs.size + 2 := by rw [Heap.size_push, z1]
  have z3 : (ncZ3 s.heap x t y u).objs.size = s.heap.objs.size + 3 := by rw [Heap.size_push, z2]
  have z4 : (ncZ4 s.heap x t y u).objs.size = s.heap.objs.size + 4 := by rw [Heap.size_push, z3]
  have z5 : (ncZ5 s.heap x t y u).objs.size = s.heap.objs.size + 5 := by rw [Heap.size_push, z4]
  have g5 : (ncZ5 s.heap x t y u).get? (ncZ4 s.heap x t y u).objs.size = some _ := Heap.get?_push_size _ rfl
  have g4 : (ncZ5 s.heap x t y u).get? (ncZ3 s.heap x t y u).objs.size = some _ := Heap.get?_push_of_some _ (Heap.get?_push_size _ rfl)
  have g3 : (ncZ5 s.heap x t y u).get? (ncZ2 s.heap x t y u).objs.size = some _ := Heap.get?_push_of_some _ (Heap.get?_push_of_some _ (Heap.get?_push_size _ rfl))
  have g2 : (ncZ5 s.heap x t y u).get? (ncZ1 s.heap x t).objs.size = some _ := Heap.get?_push_of_some _ (Heap.get?_push_of_some _ (Heap.get?_push_of_some _ (Heap.get?_push_size _ rfl)))
  have g1 : (ncZ5 s.heap x t y u).get? s.heap.objs.size = some _ := Heap.get?_push_of_some _ (Heap.get?_push_of_some _ (Heap.get?_push_of_some _ (Heap.get?_push_of_some _ (Heap.get?_push_size _ rfl))))
  show _ ∧ _
  rw [z2, z3, z4] at g5
  rw [z1, z2] at g3
  rw [z3] at g4
  rw [z1] at g2
  rw [z4]
  exact ⟨⟨_, g5, rfl⟩, h _ g5 g3 g4 ⟨_, g1, rfl, rfl⟩ ⟨_, g2, rfl, rfl⟩ z5 fun c o x =>
    Heap.get?_push_of_some _ (Heap.get?_push_of_some _ (Heap.get?_push_of_some _ (Heap.get?_push_of_some _ (Heap.get?_push_of_some _ x))))⟩
end
end PySem
namespace Nc
open PySem PySem.Spec PyProof.Rows L2
def Itzs (x y : Str) : It := ⟨fun i _ => i < x.cps.size ∧ i < y.cps.size, fun i H v H' => ∃ T c d, v = .ref T ∧ H T = none ∧ H' = upd H T (.tup [.str ⟨#[c]⟩, .str ⟨#[d]⟩]) ∧ x.cps[i]? = some c ∧ y.cps[i]? = some d, fun i _ => i = min x.cps.size y.cps.size⟩
theorem draws_str {P : Program} {w : World} {A : Around} (hh : A.handled = none) (it : Addr) (x : Str) (t : Tok) : Draws P w A it [it] x.cps.size (SignAt x) (fun i h => h.IsStrIter it (strIterType x) x t i) := by
  unfold strIterType
  split
  · exact Draws.strAscii hh it x t
  · exact Draws.strWide hh it x t
theorem turn_zipS {P : Program} {w : World} {K : PySem.W.Frag} {elts : List Expr} {kk : Nat} {tpos : Pos} (x y : Str) (t u : Tok) (z TI TO i1 i2 : Addr) (S : ZipSep2 z TI TO i1 i2 [i1] [i2]) :
    Turn P w K (.Tuple elts kk tpos) (Itzs x y) [z, TI, TO, i1, i2] z (fun i h => IsZip h z TI TO .none ∧ IsTupOf2 h TI (.ref i1) (.ref i2) ∧ (∃ a b, IsTupOf2 h TO a b) ∧ h.IsStrIter i1 (strIterType x) x t i ∧ h.IsStrIter i2 (strIterType y) y u i) where
  mem := by simp
  obj := fun i h st c hc => by
    obtain ⟨hz, hTI, ⟨a, b, hTO⟩, ⟨o1, e1, _, d1⟩, ⟨o2, e2, _, d2⟩⟩ := st
    have e' : c = z ∨ c = TI ∨ c = TO ∨ c = i1 ∨ c = i2 := by simpa using hc
    rcases e' with q | q | q | q | q
    · rw [q]; exact ⟨_, hz, fun v q => nomatch q⟩
    · rw [q]; exact ⟨_, hTI, fun v q => nomatch q⟩
    · rw [q]; exact ⟨_, hTO, fun v q => nomatch q⟩
    · rw [q]; exact ⟨o1, e1, fun v q => by rw [d1] at q; cases q⟩
    · rw [q]; exact ⟨o2, e2, fun v q => by rw [d2] at q; cases q⟩
  keep := fun i h h' st k => by
    obtain ⟨hz, hTI, ⟨a, b, hTO⟩, ⟨o1, e1, r1⟩, ⟨o2, e2, r2⟩⟩ := st
    exact ⟨k z (by simp) _ hz, k TI (by simp) _ hTI, ⟨a, b, k TO (by simp) _ hTO⟩, ⟨o1, k i1 (by simp) o1 e1, r1⟩, ⟨o2, k i2 (by simp) o2 e2, r2⟩⟩
  item := by
    intro X hP hw hK hc i pins s σ H E I hf st hg
    subst hP hw hK
    obtain ⟨hz, hTI, ⟨a0, b0, hTO⟩, h1, h2⟩ := st
    have hh : X.A.in1.handled = none := I.ok.hd hc
    have D1 := draws_str (P := X.prog) (w := X.w) hh i1 x t
    have D2 := draws_str (P := X.prog) (w := X.w) hh i2 y u
    have hzl : z < s.heap.objs.size := Heap.lt_size hz
    obtain ⟨l1, l2⟩ := (show i < x.cps.size ∧ i < y.cps.size from hg)
    refine wpAny_pyNext_zipD2_item S D1 D2 hz hTI hTO h1 h2 l1 l2 fun v1 v2 h' tk hv1 hv2 z' TO' h1' h2' hT hsz hk => ?_
    obtain ⟨c, u1, hcx, rfl⟩ := hv1
    obtain ⟨d, u2, hdy, rfl⟩ := hv2
    refine ⟨_, rfl, wpAny_letOwnedTupleGo_zip (s := { s with heap := h', toks := tk }) z' fun h'' z'' sb => ?_⟩
    have hT2 : h''.get? s.heap.objs.size = some { cls := .type "tuple", data := .seq #[.str ⟨#[c]⟩ u1, .str ⟨#[d]⟩ u2] } := (sb.2 _ (Nat.ne_of_gt hzl)).trans hT
    have new : ObjOk X.prog X.w (upd H s.heap.objs.size (.tup [.str ⟨#[c]⟩, .str ⟨#[d]⟩])) h'' s.heap.objs.size (.tup [.str ⟨#[c]⟩, .str ⟨#[d]⟩]) :=
      ⟨by show 2 ≤ sizeLine; decide, [.str ⟨#[c]⟩ u1, .str ⟨#[d]⟩ u2], .cons ⟨_, rfl⟩ (.cons ⟨_, rfl⟩ .nil), ⟨_, hT2, rfl, _, rfl⟩⟩
    have I1 : Inv X pins σ (upd H s.heap.objs.size (.tup [.str ⟨#[c]⟩, .str ⟨#[d]⟩])) { s with heap := h'', toks := tk } :=
      I.turnedNew (t' := tk) (ch := [z, TI, TO, i1, i2]) (fun c o hb q => (sb.2 c (fun q' => hb (by simp [q']))).trans (hk c o (fun q' => hb (by simp [q'])) (fun q' => hb (by simp [q'])) (fun q' => hb (by simp [q'])) (fun q' => hb (by simp [q'])) q)) hf (Nat.le_refl _) new
    refine ⟨.ref s.heap.objs.size, _, I1, rfl, ⟨_, c, d, rfl, I.hok.fresh (Nat.le_refl _), rfl, hcx, hdy⟩, ⟨z'', ?_, ⟨_, _, (sb.2 _ S.TOz).trans TO'⟩, ?_, ?_⟩, fun b hb => ?_⟩
    · exact (sb.2 _ S.TIz).trans (hk _ _ S.TIz S.TITO S.TIi1 S.TIi2 hTI)
    · obtain ⟨o, q1, q2⟩ := h1'
      exact ⟨o, (sb.2 _ (Ne.symm S.zi1)).trans q1, q2⟩
    · obtain ⟨o, q1, q2⟩ := h2'
      exact ⟨o, (sb.2 _ (Ne.symm S.zi2)).trans q1, q2⟩
    · have hlt : b < s.heap.objs.size := by
        have e' : b = z ∨ b = TI ∨ b = TO ∨ b = i1 ∨ b = i2 := by simpa using hb
        rcases e' with q | q | q | q | q
        · rw [q]; exact hzl
        · rw [q]; exact Heap.lt_size hTI
        · rw [q]; exact Heap.lt_size hTO
        · rw [q]; obtain ⟨_, e1, _⟩ := h1; exact Heap.lt_size e1
        · rw [q]; obtain ⟨_, e2, _⟩ := h2; exact Heap.lt_size e2
      rw [upd_ne (Nat.ne_of_lt hlt)]
      exact (hf b hb).1
  done := by
    intro X hP hw hK hc i pins s σ H E I hf st hg
    subst hP hw hK
    obtain ⟨hz, hTI, ⟨a0, b0, hTO⟩, h1, h2⟩ := st
    have hh : X.A.in1.handled = none := I.ok.hd hc
    have D1 := draws_str (P := X.prog) (w := X.w) hh i1 x t
    have D2 := draws_str (P := X.prog) (w := X.w) hh i2 y u
    have hg : i = min x.cps.size y.cps.size := hg
    exact wpAny_pyNext_zipD2_end S D1 D2 hz hTI hTO h1 h2 (by omega) (by omega) (by omega) fun h' tk hk => ⟨rfl, I.turnedL (t' := tk) (ch := [z, TI, TO, i1, i2]) (fun c o hb q =>
      hk c o (fun q' => hb (by simp [q'])) (fun q' => hb (by simp [q'])) (fun q' => hb (by simp [q'])) (fun q' => hb (by simp [q'])) q) hf⟩
  self := fun A i s Q E st h => wpAny_pyIter_zip st.1 h
def iZipS (ta : TA) : TI := fun σ H R => ta σ H fun vs H1 => ∃ x y, vs = [.str x, .str y] ∧ R (Itzs x y) H1
theorem pi_zipS {X : Cx} {e e2 : Expr} {ta : TA} {p pos tpos : Pos} {elts : List Expr} {kk : Nat} (hg : Gl X "zip") (hm : X.mg "zip" = none) (ha : PA X [e, e2] ta)
    (hs : starEach [e, e2] X.env = (false, eval e X.env) :: starEach [e2] X.env := by rfl) (hpl : (backTo pos (starEach [e2] X.env)).any (·.1) = false := by rfl) :
    PI X (.Tuple elts kk tpos) (.Call (.Name "zip" p) [e, e2] [] pos) (iZipS ta) := by
  refine ⟨fun pins s σ H R I h => ?_⟩
  refine Call_ (ld_blt I hg hm PyProof.Rows.boot_zip (PyProof.Rows.callWith_type1 (thn (ha.run pos pins s σ H _ I h) fun us s1 ⟨vs, H1, I1, r1, x, y, ex, q⟩ => ?_) hs hpl))
  subst ex
  cases r1 with
  | cons r rr =>
    cases rr with
    | cons r' rr =>
      cases rr
      obtain ⟨t, rfl⟩ := r
      obtain ⟨u, rfl⟩ := r'
      refine nc_call_zipS fun h' hz hTI hTO h1 h2 hsz hk => wpAny_pyIter_zip hz ?_
      have I2 : Inv X pins σ H1 { s1 with heap := h' } := I1.kept (t' := s1.toks) hk
      generalize hN : s1.heap.objs.size = N at *
      have S : ZipSep2 (N + 4) (N + 2) (N + 3) N (N + 1) [N] [N + 1] := ⟨by simp, by simp, by simp, by simp, by simp, by simp, by simp, by simp, by simp, by simp, by simp, by simp, by simp⟩
      refine ⟨N + 4, [N + 4, N + 2, N + 3, N, N + 1], _, _, H1, rfl, I2, turn_zipS x y t u (N + 4) (N + 2) (N + 3) N (N + 1) S, ⟨hz, hTI, ⟨_, _, hTO⟩, h1, h2⟩, fun b hb => ?_, q⟩
      have hle : N ≤ b := by
        have e' : b = N + 4 ∨ b = N + 2 ∨ b = N + 3 ∨ b = N ∨ b = N + 1 := by simpa using hb
        rcases e' with q | q | q | q | q
        · rw [q]; exact Nat.le_add_right _ _
        · rw [q]; exact Nat.le_add_right _ _
        · rw [q]; exact Nat.le_add_right _ _
        · rw [q]; exact Nat.le_refl _
        · rw [q]; exact Nat.le_add_right _ _
      exact I1.fpOk (by rw [hN]; exact hle) (I1.hok.fresh (by rw [hN]; exact hle))
theorem yields_zipS {K : PySem.W.Frag} {B : Fz} {x y : Str} : Yields K B (Itzs x y) (zipPairs (signsL x) (signsL y)) where
  stop := fun H s => by
    show _ = min x.cps.size y.cps.size
    rw [zipPairs_len]
    simp [signsL]
  go := fun i H hi s => by
    rw [zipPairs_len] at hi
    have : (signsL x).length = x.cps.size := by simp [signsL]
    have : (signsL y).length = y.cps.size := by simp [signsL]
    exact ⟨by omega, by omega⟩
  yld := fun i d H v H' e s ⟨T, c, c2, e1, e2, e3, e4, e5⟩ => by
    obtain ⟨dx, dy, f1, f2, rfl⟩ := zipPairs_at e
    unfold signsL at f1 f2
    rw [List.getElem?_map, Array.getElem?_toList, e4] at f1
    rw [List.getElem?_map, Array.getElem?_toList, e5] at f2
    cases f1
    cases f2
    subst e1
    refine .inr (.inl ⟨T, _, e2, e3, ?_⟩)
    simp only [Rep]
    exact ⟨T, _, rfl, Fz.upd_same, Reps.cons (by simp only [Rep]) (Reps.cons (by simp only [Rep]) Reps.nil)⟩
def zipSD : D → D → Option (List D)
  | .str x, .str y => some (zipPairs (signsL x) (signsL y))
  | _, _ => none
def zipSI (f g : M D) : M (List D) := f >>= fun d => g >>= fun e => M.opt (zipSD d e)
theorem pi_zipSD {X : Cx} {E : WX} {a b : Expr} {f g : M D} {p pos tpos : Pos} {elts : List Expr} {kk : Nat} (hg : Gl X "zip") (hm : X.mg "zip" = none) (ha : PE X a (tD X.K E f)) (hb : PE X b (tD X.K E g)) (hs : starEach [a, b] X.env = (false, eval a X.env) :: starEach [b] X.env := by rfl) (hs1 : starEach [b] X.env = (false, eval b X.env) :: starEach [] X.env := by rfl) (hpl : (backTo pos (starEach [b] X.env)).any (·.1) = false := by rfl) :
    PI X (.Tuple elts kk tpos) (.Call (.Name "zip" p) [a, b] [] pos) (tI X.K E (zipSI f g)) := by
  refine pi_weak (pi_zipS hg hm (pa_cons ha (pa_cons hb pa_nil hs1) hs) hs hpl) ?_
  rintro σ H R ⟨B, ρ, c, h⟩
  refine ⟨B, ρ, c, h.seq.imp ?_⟩
  rintro d ρ' x B' H1 - - - ⟨d, B1, ρ1, st1, rx, h1⟩
  refine ⟨B1, ρ1, st1.cf, h1.seq.imp ?_⟩
  rintro e ρ' y B' H2 - - - ⟨e, B2, ρ2, st2, ry, h2⟩
  obtain ⟨es, ee, k⟩ := h2.opt
  have rx : Rep X.K B2 d x := Rep.mono st2.bb rx
  have ry : Rep X.K B2 e y := ry
  cases d <;> cases e <;> simp only [zipSD, reduceCtorEq] at ee
  cases ee
  have e1 := rep_str rx
  have e2 := rep_str ry
  subst e1 e2
  exact ⟨_, _, rfl, k _ _ _ (Step.refl st2.cf) yields_zipS⟩
end Nc
namespace Nc
open PySem PySem.Spec PyProof.Rows L2
open PySem.W (AllAlike Sortable dataLe dataLt alike minD maxD AlikeAll EachIs)
def enc (d : D) : PyData := (D.py d).getD .none
theorem pys_enc : ∀ {ds : List D} {ps : List PyData}, D.pys ds = some ps → ps = ds.map enc
  | [], _, e => by
    simp only [D.pys] at e
    cases e
    rfl
  | d :: ds, _, e => by
    simp only [D.pys] at e
    cases q : D.py d with
    | none =>
      rw [q] at e
      cases e
    | some p =>
      cases r : D.pys ds with
      | none =>
        rw [q, r] at e
        cases e
      | some ps =>
        rw [q, r] at e
        cases e
        rw [List.map_cons, ← pys_enc r]
        congr 1
        unfold enc
        rw [q]
        rfl
section
variable {K : PySem.W.Frag} {H : Hp}
theorem dpAll_length : ∀ {xs : List V} {ps : List PyData}, DpAll K H xs ps → xs.length = ps.length
  | _, _, .nil => rfl
  | _, _, .cons _ h => by rw [List.length_cons, List.length_cons, dpAll_length h]
/-- sorted(xs) of alike data -/
noncomputable def srtV (xs : List V) (ps : List PyData) : List V := ((xs.zip ps).mergeSort (dataLe false Prod.snd)).map Prod.fst
def rSortV (K : PySem.W.Frag) : List V → Hp → VK → Prop := fun vs H Q => ∃ (a : Addr) (xs : List V) (ps : List PyData), vs = [V.ref a] ∧ SqL K H a xs ∧ DpAll K H xs ps ∧ AllAlike ps ∧ Sortable ps ∧ (∀ p ∈ ps, p.depth ≤ 40) ∧
  ∀ p, H p = none → Q (.ref p) (upd H p (.lst (srtV xs ps)))
end
section
variable {X : Cx}
theorem dpAll_each {pins : List (Addr × Obj)} {σ : L2.St} {H : Hp} {s : Shared} (I : Inv X pins σ H s) : ∀ {xs : List V} {us : List Value} {ps : List PyData}, DpAll X.K H xs ps → Vals xs us → EachIs (fun u (b : V × PyData) => RelV b.1 u) us (xs.zip ps) ∧ EachIs (fun u (b : V × PyData) => ∃ as, Reads s.heap u b.2 as) us (xs.zip ps)
  | _, _, _, .nil, .nil => ⟨.nil, .nil⟩
  | _, _, _, .cons h t, .cons r rs => by
    obtain ⟨q1, q2⟩ := dpAll_each I t rs
    rw [List.zip_cons_cons]
    exact ⟨.cons r q1, .cons (Dp.reads I _ _ _ h r) q2⟩
theorem each_vals : ∀ {us : List Value} {bs : List (V × PyData)}, EachIs (fun u (b : V × PyData) => RelV b.1 u) us bs → Vals (bs.map Prod.fst) us
  | _, _, .nil => .nil
  | _, _, .cons h t => .cons h (each_vals t)
theorem cr_sortV (hu : X.A.units + 65 < cLine) : CallR X (.builtin "sorted") (rSortV X.K) := by
  intro pins s σ H vs us Q I r h
  obtain ⟨a, xs, ps, rfl, hs, hd, hal, hk, hdep, q⟩ := h
  obtain ⟨its, rv, hl, hz⟩ := I.list hs
  obtain ⟨u, rfl, ru⟩ := vals1 r
  obtain rfl : u = Value.ref a := ru
  obtain ⟨e1, e2⟩ := dpAll_each I hd rv
  have hlen := dpAll_length hd
  have em : (xs.zip ps).map Prod.snd = ps := List.map_snd_zip (by omega)
  refine PySem.W.sorted_data (enc := Prod.snd) (R := fun u (b : V × PyData) => RelV b.1 u) hl.isList e1 e2 (by rw [em]; exact hal) (by rw [em]; exact hk) (by rw [List.length_zip]; omega) (fun b hb => ?_) fun out h1 h2 => ?_
  · have := hdep b.2 (by rw [← em]; exact List.mem_map.mpr ⟨b, hb, rfl⟩)
    omega
  · obtain ⟨ep, he'⟩ := PyProof.Rows.sortedAll_at s.heap its (List.toArray out)
    have hv : Vals (srtV xs ps) out := each_vals h2
    have hlen2 : (srtV xs ps).length ≤ sizeLine := by
      rw [hv.length, h1, List.length_zip]
      omega
    exact ⟨.ref _, upd H (s.heap.objs.size + 1) (.lst (srtV xs ps)), I.laid (t' := s.toks) (fun _ _ => PyProof.Rows.sortedAll_old) (Nat.le_succ _) ⟨hlen2, out, ep, hv, he'⟩, rfl, q _ (I.hok.fresh (Nat.le_succ _))⟩
end
def okS (ds : List D) : Prop := ∃ ps, D.pys ds = some ps ∧ AllAlike ps ∧ Sortable ps ∧ ∀ p ∈ ps, p.depth ≤ 40
noncomputable def sortL (ds : List D) : List D := ds.mergeSort (dataLe false enc)
noncomputable def sortDO : D → Option O
  | .lst ds => by classical exact if okS ds then some (.lst (sortL ds)) else none
  | _ => none
theorem reps_zip {K : PySem.W.Frag} {B : Fz} : ∀ {ds : List D} {xs : List V}, Reps K B ds xs → ∀ t ∈ ds.zip xs, Rep K B t.1 t.2
  | [], xs, _, t, h => by simp at h
  | d :: ds, xs, r, t, h => by
    simp only [Reps] at r
    obtain ⟨x, xs', rfl, r1, r2⟩ := r
    rw [List.zip_cons_cons] at h
    rcases List.mem_cons.mp h with rfl | h
    · exact r1
    · exact reps_zip r2 t h
theorem reps_of {K : PySem.W.Frag} {B : Fz} : ∀ {ts : List (D × V)}, (∀ t ∈ ts, Rep K B t.1 t.2) → Reps K B (ts.map Prod.fst) (ts.map Prod.snd)
  | [], _ => Reps.nil
  | t :: ts, h => Reps.cons (h t List.mem_cons_self) (reps_of fun u hu => h u (List.mem_cons_of_mem _ hu))
theorem sort_reps {K : PySem.W.Frag} {B : Fz} {ds : List D} {xs : List V} {ps : List PyData} (r : Reps K B ds xs) (e : D.pys ds = some ps) : Reps K B (sortL ds) (srtV xs ps) := by
  have hl := r.length
  have ep := pys_enc e
  have h1 : sortL ds = ((ds.zip xs).mergeSort (dataLe false fun t => enc t.1)).map Prod.fst := by
    rw [List.map_mergeSort (s := dataLe false enc) (fun a _ b _ => by simp only [PySem.W.dataLe_eq])]
    rw [List.map_fst_zip (by omega)]
    rfl
  have h2 : srtV xs ps = ((ds.zip xs).mergeSort (dataLe false fun t => enc t.1)).map Prod.snd := by
    unfold srtV
    have hz : xs.zip ps = (ds.zip xs).map fun t => (t.2, enc t.1) := by
      rw [ep]
      clear ep e
      clear h1
      have : ∀ (ds : List D) (xs : List V), ds.length = xs.length → xs.zip (ds.map enc) = (ds.zip xs).map fun t => (t.2, enc t.1) := by
        intro ds
        induction ds with
        | nil => intro xs h; cases xs with | nil => rfl | cons x xs => simp at h
        | cons d ds ih =>
          intro xs h
          cases xs with
          | nil => simp at h
          | cons x xs => rw [List.map_cons, List.zip_cons_cons, List.zip_cons_cons, List.map_cons, ih xs (by simpa using h)]
      exact this ds xs hl
    rw [hz, ← List.map_mergeSort (r := dataLe false fun t : D × V => enc t.1) (fun a _ b _ => by simp only [PySem.W.dataLe_eq]), List.map_map]
    rfl
  rw [h1, h2]
  refine reps_of fun t ht => reps_zip r t ?_
  exact (List.mergeSort_perm _ _).mem_iff.mp ht
section
variable {K : PySem.W.Frag}
theorem c1_sortD : Call1N K (rSortV K) sortDO := by
  intro B H σ ρ d z x Q c rx ez k
  cases d <;> simp only [sortDO, reduceCtorEq] at ez
  obtain ⟨p, xs, rfl, h1, h2⟩ := rx
  split at ez
  · rename_i ho
    cases ez
    obtain ⟨ps, e, a1, a2, a3⟩ := ho
    exact ⟨p, xs, ps, rfl, SqL.of h1, h2.dp c.bh e, a1, a2, a3, fun l hl => k _ _ _ (c.free hl _) (new_lst c (fun _ z => z) hl (sort_reps h2 e))⟩
  · cases ez
end
end Nc
namespace Nc
open PySem PySem.Spec PyProof.Rows L2
inductive Item where
  | v (d : D) | n (o : O)
def Item.slot : Item → Option Slot
  | .v d => some (.val d)
  | .n o => some (.own o)
def RI (K : PySem.W.Frag) (H0 : Hp) (σ : L2.St) (B : Fz) (H : Hp) (ρ : Rho) : Item → V → Prop
  | .v d, x => Rep K B d x
  | .n o, x => RN K H0 σ B H ρ o x
/-- the items' objects are different -/
def apartI : List Item → List V → Prop
  | i :: is, x :: xs => (match i with | .v _ => True | .n _ => ∀ (j : Nat) (o : O), is[j]? = some (.n o) → xs[j]? ≠ some x) ∧ apartI is xs
  | _, _ => True
def RIs (K : PySem.W.Frag) (H0 : Hp) (σ : L2.St) (B : Fz) (H : Hp) (ρ : Rho) : List Item → List V → Prop
  | [], xs => xs = []
  | i :: is, xs => ∃ y ys, xs = y :: ys ∧ RI K H0 σ B H ρ i y ∧ RIs K H0 σ B H ρ is ys
def RIL (K : PySem.W.Frag) : Rl (List Item) (List V) := fun H0 σ B H ρ is xs => RIs K H0 σ B H ρ is xs ∧ apartI is xs
section
variable {K : PySem.W.Frag}
theorem RI.back {H0 H1 : Hp} {σ : L2.St} {B : Fz} {H : Hp} {ρ : Rho} (k : ∀ p, H0 p ≠ none → H1 p ≠ none) : ∀ {i : Item} {x : V}, RI K H1 σ B H ρ i x → RI K H0 σ B H ρ i x
  | .v _, _, h => h
  | .n _, _, h => RlM.back (R := RN K) k h
theorem RIs.back {H0 H1 : Hp} {σ : L2.St} {B : Fz} {H : Hp} {ρ : Rho} (k : ∀ p, H0 p ≠ none → H1 p ≠ none) : ∀ {is : List Item} {xs : List V}, RIs K H1 σ B H ρ is xs → RIs K H0 σ B H ρ is xs
  | [], _, h => h
  | i :: is, _, ⟨y, ys, e, h, t⟩ => ⟨y, ys, e, h.back k, t.back k⟩
instance : RlM (RIL K) := ⟨fun k h => ⟨h.1.back k, h.2⟩⟩
theorem RI.mono {H0 H1 H2 : Hp} {σ : L2.St} {B1 B2 : Fz} {ρ1 ρ2 : Rho} {i : Item} {x : V} (r : RI K H0 σ B1 H1 ρ1 i x) (st : Step K σ B1 H1 ρ1 σ B2 H2 ρ2) : RI K H0 σ B2 H2 ρ2 i x := by
  cases i with
  | v d => exact Rep.mono st.bb r
  | n o => exact RN.mono r st
end
/-- the slots are set in turn -/
def Rho.sets : Rho → List Nat → List Item → Rho
  | ρ, i :: is, z :: zs => Rho.sets (ρ.set i z.slot) is zs
  | ρ, _, _ => ρ
def setG (is : List Nat) (zs : List Item) : M Out := fun ρ => if zs.length = is.length then .ok .nx (ρ.sets is zs) else .no
def parG (is : List Nat) (fs : M (List Item)) : M Out := fs >>= setG is
def gNil : M (List Item) := M.ret []
def gV (f : M D) (fs : M (List Item)) : M (List Item) := f >>= fun d => fs >>= fun zs => M.ret (.v d :: zs)
def gN (f : M O) (fs : M (List Item)) : M (List Item) := f >>= fun o => fs >>= fun zs => M.ret (.n o :: zs)
section
variable {X : Cx} {E : WX} {es : List Expr} {fs : M (List Item)}
theorem RIs.len {K : PySem.W.Frag} {H0 H : Hp} {σ : L2.St} {B : Fz} {ρ : Rho} : ∀ {is : List Item} {xs : List V}, RIs K H0 σ B H ρ is xs → is.length = xs.length
  | [], xs, h => by
    have e : xs = [] := h
    rw [e]
    rfl
  | i :: is, _, ⟨y, ys, e, _, t⟩ => by rw [e, List.length_cons, List.length_cons, t.len]
theorem RIs.at_ {K : PySem.W.Frag} {H0 H : Hp} {σ : L2.St} {B : Fz} {ρ : Rho} : ∀ {is : List Item} {xs : List V} {j : Nat} {o : O}, RIs K H0 σ B H ρ is xs → is[j]? = some (.n o) → ∃ p, xs[j]? = some (.ref p) ∧ H0 p = none
  | [], _, _, _, _, e => by simp at e
  | i :: is, _, 0, o, ⟨y, ys, e, h, t⟩, e2 => by
    subst e
    simp at e2
    subst e2
    obtain ⟨p, u, rfl, n0, _⟩ := h
    exact ⟨p, rfl, n0⟩
  | i :: is, _, j + 1, o, ⟨y, ys, e, h, t⟩, e2 => by
    subst e
    obtain ⟨p, e3, n0⟩ := t.at_ (j := j) (by simpa using e2)
    exact ⟨p, by simpa using e3, n0⟩
variable {a b c : Expr} {i j l : Nat} {kt : ExprContext} {k2 : Nat} {st : Stmt}
end
end Nc
namespace Nc
open PySem PySem.Spec PyProof.Rows L2
def kin (k : Key) (ks : List Key) : Bool := ks.any fun j => decide (j = k)
def dinD (d e : D) : Option D := match e with
  | .dk ks _ => (asKey d).map fun k => .bl (kin k ks)
  | _ => none
def dnotinD (d e : D) : Option D := match e with
  | .dk ks _ => (asKey d).map fun k => .bl (!kin k ks)
  | _ => none
def repD (k : Key) (d : D) : List Key → List D → List D
  | j :: ks, e :: ds => (if j = k then d else e) :: repD k d ks ds
  | _, _ => []
def putDO (j d : D) : O → Option (D × O)
  | .dk ks ds => (asKey j).bind fun k => if ks.length < sizeLine then some (.non, if kin k ks = true then .dk ks (repD k d ks ds) else .dk (ks ++ [k]) (ds ++ [d])) else none
  | _ => none
def dputS (fr : M Ref) (f fj : M D) : M Out := f >>= fun d => fr >>= fun r => fj >>= fun j => updO r (putDO j d) >>= fun _ => M.ret .nx
def d0M : M O := M.ret (.dk [] [])
def d1O (j d : D) : Option O := (asKey j).map fun k => .dk [k] [d]
def d1M (fk fv : M D) : M O := fk >>= fun j => fv >>= fun d => M.opt (d1O j d)
end Nc
namespace Nc
open PySem PySem.Spec PyProof.Rows L2
end Nc
namespace Nc
open PySem PySem.Spec PyProof.Rows L2
end Nc
namespace Nc
open PySem PySem.Spec PyProof.Rows L2
def apM (as : M (List D)) (dd : List D) : M (List D) := as >>= fun ds => M.ret (ds ++ dd)
end Nc
namespace Nc
open PySem PySem.Spec PyProof.Rows L2
end Nc
namespace Nc
open PySem PySem.Spec PyProof.Rows L2 PySem.Calls
/-- what the written part says of an error's class, at C, and of its __init__, at fI -/
structure ErrC (P : Program) (K : PySem.W.Frag) (mg : Str → Option Value) (C fI : Addr) (st : Stmt) (qual : Str) (fd : FuncData) : Prop where
  cls : OexC K C
  sub : PySem.W.mroIn K C (.ref C) = some true
  sup : PySem.W.ks_superIn K C C "__init__" = some (some (.builtin "ValueError.__init__"))
  isV : PySem.W.subIn K (.ref C) (.type "ValueError") = some true
  third : PySem.W.nsIn K cStatics "thirdparty.any" = some none
  noSup : mg "super" = none
  top : (P.main.scope.names.lookup ("super" : Str)).isSome = false
  fn : ∃ (oc : Value) (od : Option Addr) (kV doc pm ct : Value) (an : Option Addr) (osl : Array (Option Value)) (cda cc : Addr), fd = PySem.W.ksFn "__init__" qual (defArgs st) (defBody st) (defScope st) .none kV doc pm an (.ref cda) ct cc ∧ K.lookup fI = some ⟨oc, od, .func fd, osl⟩ ∧ PySem.W.codeIn K (.ref cda) qual = true ∧
    (∃ (ccl : Value) (cdd : Option Addr) (vs : Array Value) (ccs : Array (Option Value)) (file : Str) (tf : Tok), K.lookup cda = some ⟨ccl, cdd, .fields vs, ccs⟩ ∧ vs[2]? = some (.str file tf) ∧ ((P.main.file : Str) == file) = true) ∧
    ∃ (cl : Value) (cld : Option Addr) (csl : Array (Option Value)), K.lookup cc = some ⟨cl, cld, .cell (some (.ref C)), csl⟩
section
variable {prog : Program} {w : World} {M : Model} {A : Around} {E : Value → Shared → Prop} {h : Heap} {g : Array GenState} {d : Drawn} {t : Nat} {os : OsState}
variable {nm q : Str} {C N : Addr} {bs bm bmB : List Value} {hdct : Bool} {sn : List Str} {sub : List Value} {ab : Bool} {col : Option Bool} {dd : Option Addr} {k0 k1 k2 k3 k5 : Option Value}
/-- the bound __init__, called -/
theorem call_bwV {u e t0 : Addr} {rest : List Value} {Q : Value → Shared → Prop}
    (hC : h.get? C = some (excClassObj nm q C N bs bm hdct sn sub ab col dd k0 k1 k2 k3 k5 "ValueError.__new__")) (he : h.get? e = some (PySem.HandSPX.excO C t0)) (hu : h.get? u = some (PySem.W.kxs_mw "ValueError.__init__" e)) (hrest : rest.length ≤ sizeLine)
    (hq : ∀ h' t1, (∀ b o, b ≠ e → h.get? b = some o → h'.get? b = some o) → h'.get? e = some (PySem.HandSPX.excO C t1) → Q .none ⟨h', g, d, t, os⟩) :
    wpAny (model prog w) A (call (.ref u) rest) Q E ⟨h, g, d, t, os⟩ := by
  refine wpAny_call (codeAny_of_tree ?_)
  show wpAny _ A.in1 (callAny (.ref u) ⟨rest, []⟩) _ _ _
  simp only [callAny]
  refine wpAny_bind (wpAny_load hu ?_)
  simp only [PySem.W.kxs_mw, show (Value.type "method-wrapper" == Value.type "method" || Value.type "method-wrapper" == Value.type "builtin_function_or_method" || Value.type "method-wrapper" == Value.type "method-wrapper") = true by decide, if_true]
  refine PySem.W.KFB.if_so (by decide) ?_
  refine wpAny_bind (PySem.ESX.check_bound F.excBase_ValueError hC he rfl ?_)
  refine wpAny_bind (wpAny_pure (wpAny_pure ?_))
  refine ⟨Code.quiet_builtin _ (by decide +kernel), codeAny_builtin F.excBase_ValueError.initEntry ?_⟩
  rw [Around.under_plainId F.excBase_ValueError.init.plain _]
  wp_walk
  refine hq _ h.objs.size (fun b o hb ho => ?_) ?_
  · rw [Heap.get?_update_other _ _ (Ne.symm hb)]
    exact Heap.get?_push_of_some _ ho
  · rw [Heap.get?_update_self _ (Heap.get?_push_of_some _ he) rfl]
    rfl
end
def fsOf (o : Option (Str × V)) (code : Str) : List (Str × V) := match o with
  | none => [("code", .str code)]
  | some p => [("code", .str code), p]
def vsOf : Option V → List V
  | none => []
  | some y => [y]
def fldO (f : Option Str) (y : Option V) : Option (Str × V) := f.bind fun f => y.map fun y => (f, y)
def spErr (K : PySem.W.Frag) (C : Addr) (f : Option Str) (code : Str) : Sp := fun vs H Q _ => ∃ (a : Addr) (y : Option V), vs = .ref a :: vsOf y ∧ f.isSome = y.isSome ∧ H a = some (exo a C none) ∧
  ∀ d, H d = none → d ≠ a → Q .non (upd (upd H a (exo a C (some d))) d (exd d (fsOf (fldO f y) code)))
section
variable {P : Program} {w : World} {K : PySem.W.Frag} {mg : Str → Option Value} {base : Heap} {C fI : Addr} {st : Stmt} {qual : Str} {fd : FuncData} {A : Around} {E : Value → Shared → Prop} {s : Shared}
/-- super().__init__(text) -/
theorem super_stmt {body : List Stmt} {L cda cc t0 : Addr} {e : Addr} {msg : Str} {oc : Value} {od : Option Addr} {osl : Array (Option Value)} {m : Str → Option Value} {k : Nat} {p0 p1 p2 p3 p4 p5 : Pos} {doc pm ct kV : Value} {an : Option Addr} {Q : Flow → Shared → Prop} {nm q : Str} {N : Addr} {bs bm : List Value} {sn : List Str} {sub : List Value} {ab : Bool} {col : Option Bool} {dd : Option Addr} {k0 k1 k2 k3 k5 : Option Value}
    {ccl : Value} {cdd : Option Addr} {vs : Array Value} {ccs : Array (Option Value)} {file : Str} {tf : Tok} {cl : Value} {cld : Option Addr} {csl : Array (Option Value)} {mb : Str → Option Value} {ar : Arg}
    (hC : K.lookup C = some (excClassObj nm q C N bs bm true sn sub ab col dd k0 k1 k2 k3 k5 "ValueError.__new__"))
    (sub_ : PySem.W.mroIn K C (.ref C) = some true) (sup : PySem.W.ks_superIn K C C "__init__" = some (some (.builtin "ValueError.__init__"))) (isV : PySem.W.subIn K (.ref C) (.type "ValueError") = some true) (third : PySem.W.nsIn K cStatics "thirdparty.any" = some none)
    (hlk : K.lookup fI = some ⟨oc, od, .func (PySem.W.ksFn "__init__" qual (defArgs st) (defBody st) (defScope st) .none kV doc pm an (.ref cda) ct cc), osl⟩) (hcda : K.lookup cda = some ⟨ccl, cdd, .fields vs, ccs⟩) (hvs : vs[2]? = some (.str file tf)) (hfile : ((P.main.file : Str) == file) = true) (hcc : K.lookup cc = some ⟨cl, cld, .cell (some (.ref C)), csl⟩)
    (top : (P.main.scope.names.lookup ("super" : Str)).isSome = false) (noSup : mg "super" = none)
    (X : K.In s.heap) (G : s.heap.Ns mainGlobals mg) (B : s.heap.Ns builtinsNs mb) (hB : ∀ x : Str, x ≠ "__name__" → mb x = bootBuiltins x) (hn : s.heap.Ns L m) (hself : m "self" = some (.ref e)) (he : s.heap.get? e = some (PySem.HandSPX.excO C t0)) (hL : L ≠ e)
    (hk : (defScope st).kind = .function) (hks : (defScope st).names.lookup ("super" : Str) = some .globalImplicit) (hkc : (defScope st).names.lookup ("__class__" : Str) = some .free) (hka : (defScope st).names.lookup ("self" : Str) = some .local) (har : ((defArgs st).posonlyargs ++ (defArgs st).args).head? = some ar) (harn : ar.arg = "self")
    {pl : Sem Bool} (hev : eval (.Call (.Attribute (.Call (.Name "super" p0) [] [] p1) "__init__" p2) [.Constant (.str msg) k p3] [] p4) (PySem.W.ksEnv qual (defScope st) L fI (.ref cda) cc) = (do
      let ov ← attributeBase (.Call (.Name "super" p0) [] [] p1) "__init__" (PySem.W.ksEnv qual (defScope st) L fI (.ref cda) cc) (eval (.Call (.Name "super" p0) [] [] p1) (PySem.W.ksEnv qual (defScope st) L fI (.ref cda) cc))
      standAt p2.atName
      let (f, first) ← holding [ov] (getMethod ov "__init__" pl)
      callWith p4 f first (backTo p4 (starEach [.Constant (.str msg) k p3] (PySem.W.ksEnv qual (defScope st) L fI (.ref cda) cc))) []))
    (hi : interactive (PySem.W.ksEnv qual (defScope st) L fI (.ref cda) cc) = false) (hs : swapsWith (.Call (.Attribute (.Call (.Name "super" p0) [] [] p1) "__init__" p2) [.Constant (.str msg) k p3] [] p4) none p5.line (PySem.W.ksEnv qual (defScope st) L fI (.ref cda) cc) = pure false)
    (hq : ∀ h' t1 tk, (∀ b o, b ≠ e → s.heap.get? b = some o → h'.get? b = some o) → h'.get? e = some (PySem.HandSPX.excO C t1) → Q .next { s with heap := h', toks := tk }) :
    _root_.PySem.wpAt (model P w) A (.func body (PySem.W.ksEnv qual (defScope st) L fI (.ref cda) cc)) (exec (.Expr (.Call (.Attribute (.Call (.Name "super" p0) [] [] p1) "__init__" p2) [.Constant (.str msg) k p3] [] p4) p5) (PySem.W.ksEnv qual (defScope st) L fI (.ref cda) cc)) Q E s := by
  obtain ⟨hp, g, d, t, os⟩ := s
  have hcl : PySem.W.clsIn K C = some { name := nm, bases := bs, mro := .ref C :: bm, ns := N, qualname := q, hasDict := true, slotNames := sn, subclasses := sub, abstract := ab, collection := col, hasDel := false } := by unfold PySem.W.clsIn; rw [hC] <;> rfl
  have I : PySem.W.InstAt hp e (PySem.HandSPX.excO C t0) C none := ⟨he, rfl, rfl, trivial⟩
  have hCn := X _ _ hC
  refine ks_wpAt_Expr_any (ks_wpAt_MethodCall ?_ hev) hi hs
  refine ks_wpAt_super_base (env := PySem.W.ksEnv qual (defScope st) L fI (.ref cda) cc) hks hkc (by decide) rfl (X _ _ hlk) rfl har rfl (X _ _ hcda) rfl hvs hfile top ?_
  refine PySem.W.ks_loadName_global hk hks (loadGlobal_builtin (env := PySem.W.ksEnv qual (defScope st) L fI (.ref cda) cc) G noSup B ((hB _ (by decide +kernel)).trans (by decide +kernel)) ⟨rfl, ?_⟩)
  refine wpAny_loadName_free hk hkc rfl ⟨_, X _ _ hcc, rfl⟩ ?_
  rw [harn]
  refine wpAny_loadName_local hk hka hn hself ?_
  refine ks_wpAny_isType_cls hCn rfl ⟨rfl, ?_⟩
  refine ks_wpAny_call_super hCn rfl he rfl (fun c z => by cases z) (PySem.W.looks_mroIn X sub_) (fun h1 e1 k1 => ?_)
  -- the bound __init__
  have X1 : K.In h1 := X.keeps k1
  have he1 := k1 _ _ he
  have I1 : PySem.W.InstAt h1 e (PySem.HandSPX.excO C t0) C none := ⟨he1, rfl, rfl, trivial⟩
  have hm := sup
  unfold PySem.W.ks_superIn at hm
  rw [hcl] at hm
  refine PySem.W.kxs_getMethod PySem.W.kxs_ValueError e1 (PySem.W.looks_opaque X1 third) (l₀ := .ref C :: bm) (fun A Q E s k q => wpAny_bind ((PySem.W.looks_clsIn X1 hcl) A _ E s k (wpAny_pure q))) rfl X1 hm (I1.type.andThen (PySem.W.looks_subIn X1 isV)) (PySem.W.ks_ne X1 I1 hcl) (by decide) ?_
  refine PySem.W.kxs_callWith (i := "ValueError.__init__") (x := e) (by rfl) (evalArgs_plain ?_)
  refine Calls.spliced_cons (Calls.Constant_str (k := k) (pos := p3) ?_)
  refine Calls.spliced_nil ?_
  have hu : (h1.push (PySem.W.kxs_mw "ValueError.__init__" e)).get? h1.objs.size = some (PySem.W.kxs_mw "ValueError.__init__" e) := Heap.get?_push_at rfl rfl
  have k2 : ∀ b o, hp.get? b = some o → (h1.push (PySem.W.kxs_mw "ValueError.__init__" e)).get? b = some o := fun b o z => Heap.get?_push_of_some _ (k1 b o z)
  refine ⟨hu, ?_⟩
  refine call_bwV (k2 _ _ hCn) (k2 _ _ he) hu (by show 1 ≤ sizeLine; decide) (fun h3 t1 k3 e3 => ?_)
  exact hq h3 t1 _ (fun b o hb z => k3 b o hb (k2 b o z)) e3
/-- self.f = v on an exception without a dict -/
theorem store1 {e C t1 : Addr} {f : Str} {u : Value} {nm q : Str} {N : Addr} {bs bm : List Value} {sn : List Str} {sub : List Value} {ab : Bool} {col : Option Bool} {dd : Option Addr} {k0 k1 k2 k3 k5 : Option Value} {Q : Unit → Shared → Prop}
    (hC : K.lookup C = some (excClassObj nm q C N bs bm true sn sub ab col dd k0 k1 k2 k3 k5 "ValueError.__new__")) (hbm : PySem.HandSPX.refsVE bm = true) (sa : PySem.W.findIn K (.ref C) "__setattr__" = some (some (.builtin "object.__setattr__"))) (hno : PySem.W.findIn K (.ref C) f = some none)
    (X : K.In s.heap) (he : s.heap.get? e = some (PySem.HandSPX.excO C t1))
    (h : ∀ h' tk' dx, (∀ b o, b ≠ e → s.heap.get? b = some o → h'.get? b = some o) → s.heap.objs.size ≤ dx → dx ≠ e → h'.get? e = some { cls := .ref C, dict := some dx, data := .fields #[.ref t1, .none, .none, .none, .bool false, .none] } →
      h'.Ns1 dx (fun y => if y = f then some u else none) → Q () { s with heap := h', toks := tk' }) : wpAny (model P w) A (setAttr (.ref e) f u) Q E s := by
  have hcl : PySem.W.clsIn K C = some { name := nm, bases := bs, mro := .ref C :: bm, ns := N, qualname := q, hasDict := true, slotNames := sn, subclasses := sub, abstract := ab, collection := col, hasDel := false } := by unfold PySem.W.clsIn; rw [hC] <;> rfl
  obtain ⟨hp, g, d, t, os⟩ := s
  refine PySem.W.set_plain X (ox := { cls := .ref C, dict := none, data := .fields #[.ref t1, .none, .none, .none, .bool false, .none] }) (od := none) ⟨he, rfl, rfl, trivial⟩ sa ?_
  exact PySem.HandSPX.exc_osa X he hcl (show PySem.HandSPX.refsVE (.ref C :: bm) = true from hbm) rfl hno fun h' tk' dx k dn dne hx hn => h h' tk' dx k dn dne hx hn
theorem store2 {e C dx t1 : Addr} {f : Str} {u : Value} {nm q : Str} {N : Addr} {bs bm : List Value} {sn : List Str} {sub : List Value} {ab : Bool} {col : Option Bool} {dd : Option Addr} {k0 k1 k2 k3 k5 : Option Value} {Q : Unit → Shared → Prop} {m0 : Str → Option Value} {nl : List Str}
    (hC : K.lookup C = some (excClassObj nm q C N bs bm true sn sub ab col dd k0 k1 k2 k3 k5 "ValueError.__new__")) (hbm : PySem.HandSPX.refsVE bm = true) (sa : PySem.W.findIn K (.ref C) "__setattr__" = some (some (.builtin "object.__setattr__"))) (hno : PySem.W.findIn K (.ref C) f = some none)
    (X : K.In s.heap) (he : s.heap.get? e = some { cls := .ref C, dict := some dx, data := .fields #[.ref t1, .none, .none, .none, .bool false, .none] }) (hns : s.heap.Ns1 dx m0) (hw : Within m0 nl) (hz : nl.length ≤ 1000)
    (h : ∀ h' tk', (∀ b o, b ≠ dx → s.heap.get? b = some o → h'.get? b = some o) → h'.Ns1 dx (fun y => if y = f then some u else m0 y) → Q () { s with heap := h', toks := tk' }) : wpAny (model P w) A (setAttr (.ref e) f u) Q E s := by
  have hcl : PySem.W.clsIn K C = some { name := nm, bases := bs, mro := .ref C :: bm, ns := N, qualname := q, hasDict := true, slotNames := sn, subclasses := sub, abstract := ab, collection := col, hasDel := false } := by unfold PySem.W.clsIn; rw [hC] <;> rfl
  obtain ⟨oD, _, _, hoD, _, _⟩ := hns.count hw
  obtain ⟨hp, g, d, t, os⟩ := s
  refine PySem.W.set_plain X (ox := { cls := .ref C, dict := some dx, data := .fields #[.ref t1, .none, .none, .none, .bool false, .none] }) (od := some oD) ⟨he, rfl, rfl, hoD⟩ sa ?_
  exact PySem.OEX.osa_old X he hns hw hz hcl (show PySem.HandSPX.refsVE (.ref C :: bm) = true from hbm) rfl hno fun h' tk' k hn => h h' tk' k hn
theorem execs_one {c : Code} {env : Env} {x : Stmt} {Q : Flow → Shared → Prop} (h : _root_.PySem.wpAt (model P w) A c (exec x env) (fun f s' => Q f s') E s) : _root_.PySem.wpAt (model P w) A c (execs [x] env) Q E s := by
  refine ks_wpAt_execs_cons (ks_wpAt_mono h (fun f s' q => ?_) fun _ _ z => z)
  cases f with
  | next => exact wpAt_of_wpAny (wpAny_execs_nil q)
  | brk => exact q
  | cont => exact q
  | ret v => exact q
end
/-- the heap behind C(..): how it stands at the layer -/
theorem err_end {P : Program} {w : World} {K : PySem.W.Frag} {mg : Str → Option Value} {base : Heap} {A : Around} {outer : List Env} {s : Shared} {H : Hp} {a C d t1 : Addr} {fs : List (Str × V)} {h4 : Heap} {tk : Nat} {Q : VK} {mA : Str → Option Value}
    (e0 : Env0 P w K mg base A outer s H) (ha : H a = some (exo a C none)) (k : ∀ b o, b ≠ a → s.heap.get? b = some o → h4.get? b = some o) (hd : s.heap.objs.size ≤ d) (hda : d ≠ a) (he : h4.get? a = some { cls := .ref C, dict := some d, data := .fields #[.ref t1, .none, .none, .none, .bool false, .none] })
    (hn : h4.Ns1 d mA) (rel : ∀ f, RelO (fs.lookup f) (mA f)) (q : Q .non (upd (upd H a (exo a C (some d))) d (exd d fs))) : CE outer P w H s Q .none { s with heap := h4, toks := tk } := by
  have hnd : H d = none := e0.hok.fresh hd
  have nd : ∀ {b : Addr} {o : Obj}, s.heap.get? b = some o → b ≠ d := fun {b o} q => Nat.ne_of_lt (Nat.lt_of_lt_of_le (Heap.lt_size q) hd)
  have na : ∀ {b : Addr}, H b = none → b ≠ a := fun {b} n z => by
    rw [z, ha] at n
    cases n
  refine ⟨.non, _, rfl, e0.bare, ?_, fun b o z => ?_, rfl, q⟩
  · exact {
      keep := fun b o q n _ _ => k b o (na n) q
      slot := fun b o q n _ _ => ⟨o.slots, k b o (na n) q⟩
      free := fun b o q n _ => by rw [upd_ne (nd q), upd_ne (na n)]; exact n
      there := fun b o q _ => by
        by_cases hb : b = a
        · exact ⟨_, by rw [hb]; exact he⟩
        · exact ⟨o, k b o hb q⟩
      tups := fun b xs q => by rw [upd_ne (ne_of_none q hnd), upd_ne (at_ne ha q exo_tup)]; exact q
      frzs := fun b o v q => by rw [upd_ne (ne_of_none q hnd), upd_ne (at_ne ha q exo_frz)]; exact q
      tbls := fun b ps q => ⟨#[], by rw [upd_ne (ne_of_none q hnd), upd_ne (at_ne ha q exo_tbl), q]; simp⟩ }
  · by_cases hbd : b = d
    · subst hbd
      rw [upd_same] at z
      cases z
      exact exd_ok hn rel
    · rw [upd_ne hbd] at z
      by_cases hb : b = a
      · subst hb
        rw [upd_same] at z
        cases z
        exact exo_ok he
      · rw [upd_ne hb] at z
        exact (e0.hok b o z).stay (fun c v hc z => k c v (by
            rcases hc with hc | hc
            · rw [hc]
              exact hb
            · exact at_ne ha hc exo_own) z)
          (fun c hc => by rw [upd_ne (ne_of_none hc hnd), upd_ne (at_ne ha hc exo_own)]; exact hc) (fun c xs hc => by rw [upd_ne (ne_of_none hc hnd), upd_ne (at_ne ha hc exo_tup)]; exact hc)
section
variable {P : Program} {w : World} {K : PySem.W.Frag} {mg : Str → Option Value} {base : Heap} {C fI : Addr} {st : Stmt} {qual : Str} {fd : FuncData}
abbrev supE (msg : Str) (k : Nat) (p0 p1 p2 p3 p4 : Pos) : Expr := .Call (.Attribute (.Call (.Name "super" p0) [] [] p1) "__init__" p2) [.Constant (.str msg) k p3] [] p4
/-- what the text of the def says -/
structure ErrT (st : Stmt) (qual : Str) (ps : List Str) (msg : Str) (k : Nat) (p0 p1 p2 p3 p4 p5 : Pos) : Prop where
  hk : (defScope st).kind = .function
  co : (defScope st).isCoroutine = false
  gen : (defScope st).isGenerator = false
  nocell : ∀ x ∈ (defScope st).names, x.2 ≠ .cell
  hks : (defScope st).names.lookup ("super" : Str) = some .globalImplicit
  hkc : (defScope st).names.lookup ("__class__" : Str) = some .free
  loc : ∀ x ∈ ps, (defScope st).names.lookup x = some .local
  ar : ∃ ar : Arg, ((defArgs st).posonlyargs ++ (defArgs st).args).head? = some ar ∧ ar.arg = "self"
  hev : ∀ (L fI cda cc : Addr), ∃ pl : Sem Bool, eval (supE msg k p0 p1 p2 p3 p4) (PySem.W.ksEnv qual (defScope st) L fI (.ref cda) cc) = (do
      let ov ← attributeBase (.Call (.Name "super" p0) [] [] p1) "__init__" (PySem.W.ksEnv qual (defScope st) L fI (.ref cda) cc) (eval (.Call (.Name "super" p0) [] [] p1) (PySem.W.ksEnv qual (defScope st) L fI (.ref cda) cc))
      standAt p2.atName
      let (f, first) ← holding [ov] (getMethod ov "__init__" pl)
      callWith p4 f first (backTo p4 (starEach [.Constant (.str msg) k p3] (PySem.W.ksEnv qual (defScope st) L fI (.ref cda) cc))) [])
  hi : ∀ (L fI cda cc : Addr), interactive (PySem.W.ksEnv qual (defScope st) L fI (.ref cda) cc) = false
  hs : ∀ (L fI cda cc : Addr), swapsWith (supE msg k p0 p1 p2 p3 p4) none p5.line (PySem.W.ksEnv qual (defScope st) L fI (.ref cda) cc) = pure false
abbrev ownE (qual : Str) (st : Stmt) (L fI cda cc : Addr) : Env := PySem.W.ksEnv qual (defScope st) L fI (.ref cda) cc
theorem errOk1 (T : ErrC P K mg C fI st qual fd) {f msg code : Str} {k k2 : Nat} {p0 p1 p2 p3 p4 p5 a0 a1 a2 a3 b0 b1 b2 b3 : Pos} (S : ErrT st qual ["self", f] msg k p0 p1 p2 p3 p4 p5)
    (hbody : defBody st = [.Expr (supE msg k p0 p1 p2 p3 p4) p5, .Assign [.Attribute (.Name "self" a0) f a1] (.Name f a2) a3, .Assign [.Attribute (.Name "self" b0) "code" b1] (.Constant (.str code) k2 b2) b3])
    (hs2 : ∀ (L fI cda cc : Addr), swapsWith (.Name f a2) (some (.Attribute (.Name "self" a0) f a1)) a3.line (ownE qual st L fI cda cc) = pure false) (hs3 : ∀ (L fI cda cc : Addr), swapsWith (.Constant (.str code) k2 b2) (some (.Attribute (.Name "self" b0) "code" b1)) b3.line (ownE qual st L fI cda cc) = pure false)
    (hno1 : PySem.W.findIn K (.ref C) f = some none) (hno2 : PySem.W.findIn K (.ref C) "code" = some none) (hne : f ≠ "self") (hdf : (f == ("__debug__" : Str)) = false) :
    FnOk P w K mg base (L2.CX P w) 1 fI fd ["self", f] (spErr K C (some f) code) := by
  refine ⟨fun vs H Q E h => ?_, fun A outer s H args us vs Q E hr e0 hb r hsp => ?_⟩
  · obtain ⟨a, y, rfl, hy, _⟩ := h
    cases y with
    | none => cases hy
    | some y => rfl
  obtain ⟨a, y, rfl, hy, ha, q⟩ := hsp
  cases y with
  | none => cases hy
  | some y =>
  cases r with
  | @cons _ u0 _ ur ra rr =>
  obtain rfl : u0 = Value.ref a := ra
  cases rr with
  | @cons _ u1 _ ur1 ry rr1 =>
  cases rr1
  obtain ⟨nm, qn, N, bs, bm, sn, sub, ab, col, dd, k0, k1, kk2, k3, k5, hC, hbm⟩ := T.cls.cls
  obtain ⟨oc, od, kV, doc, pm, ct, an, osl, cda, cc, efd, lk, hcd, ⟨ccl, cdd, cvs, ccs, file, tf, hcda, hvs, hfile⟩, cl, cld, csl, hcc⟩ := T.fn
  subst efd
  obtain ⟨mb, hmb1, hmb2⟩ := e0.mod.blt
  have up : ∀ b o, base.get? b = some o → s.heap.get? b = some o := fun b o e => (e0.bs b o e).1
  have KX : K.In s.heap := e0.mod.kin.keeps up
  obtain ⟨t0, ho⟩ := exo_at e0.hok ha
  obtain ⟨ar, har, harn⟩ := S.ar
  refine PySem.ks_codeAny_call_defAt (body := defBody st) (binds := (["self", f] : List Str).zip [Value.ref a, u1]) hr.depth (KX _ _ lk) rfl (e0.mod.nolimit.keeps up) (PySem.W.codeRec_of KX hcd) rfl hb S.nocell (fun x hx => S.loc _ (List.of_mem_zip hx).1) (fun h1 hns k1 => ?_) S.co S.gen S.hk
  show _root_.PySem.wpAt _ (A.deeper (ownE qual st s.heap.objs.size fI cda cc)) (.func (defBody st) (ownE qual st s.heap.objs.size fI cda cc)) (execs (defBody st) (ownE qual st s.heap.objs.size fI cda cc)) _ _ _
  have hself : (((["self", f] : List Str).zip [Value.ref a, u1]).reverse).lookup ("self" : Str) = some (Value.ref a) := by
    show List.lookup _ [(f, u1), (Str.ofString "self", Value.ref a)] = _
    rw [List.lookup_cons, show ((Str.ofString "self") == f) = false from beq_eq_false_iff_ne.mpr (Ne.symm hne)]
    simp
  have hf : (((["self", f] : List Str).zip [Value.ref a, u1]).reverse).lookup f = some u1 := by
    show List.lookup _ [(f, u1), (Str.ofString "self", Value.ref a)] = _
    simp
  have hLa : s.heap.objs.size ≠ a := Nat.ne_of_gt (Heap.lt_size ho)
  obtain ⟨pl, hev⟩ := S.hev s.heap.objs.size fI cda cc
  rw [hbody]
  refine ks_wpAt_execs_cons (super_stmt (C := C) (t0 := t0) (ar := ar) (mb := mb) hC T.sub T.sup T.isV T.third lk hcda hvs hfile hcc T.top T.noSup (KX.keeps k1) ((e0.mod.glob.keeps up).keeps k1) ((hmb1.keeps up).keeps k1) hmb2 hns hself (k1 _ _ ho) hLa S.hk S.hks S.hkc (S.loc _ (by simp)) har harn hev (S.hi _ _ _ _) (S.hs _ _ _ _) fun h2 t1 tk2 k2' he2 => ?_)
  have ns2 : h2.Ns s.heap.objs.size (fun x => (((["self", f] : List Str).zip [Value.ref a, u1]).reverse).lookup x) := hns.at fun o y => k2' _ _ hLa y
  have nK : ∀ b o, K.lookup b = some o → b ≠ a := fun b o z e => by
    have := (e0.bs b o (e0.mod.kin b o z)).2
    rw [e, ha] at this
    cases this
  have KX2 : K.In h2 := fun b o z => k2' b o (nK b o z) (k1 _ _ (KX b o z))
  -- self.f = f
  refine ks_wpAt_execs_cons (ks_wpAt_Assign_Attr (wpAt_of_wpAny (PySem.ESX.ldL (env := ownE qual st s.heap.objs.size fI cda cc) ns2 hf ?_ S.hk (S.loc _ (by simp)) hdf)) (hs2 _ _ _ _))
  refine PySem.ESX.ldL (env := ownE qual st s.heap.objs.size fI cda cc) ns2 hself ?_ S.hk (S.loc _ (by simp)) (by decide)
  refine store1 hC hbm T.cls.sa hno1 KX2 he2 fun h3 tk3 dx k3' hdx hdxa he3 hn3 => ?_
  have hs12 : s.heap.objs.size < h2.objs.size := Heap.lt_size (ns2.choose_spec.choose_spec.choose_spec.1)
  have ns3 : h3.Ns s.heap.objs.size (fun x => (((["self", f] : List Str).zip [Value.ref a, u1]).reverse).lookup x) := ns2.at fun o y => k3' _ _ hLa y
  have KX3 : K.In h3 := fun b o z => k3' b o (nK b o z) (KX2 b o z)
  -- self.code = code
  refine execs_one (ks_wpAt_Assign_Attr (wpAt_of_wpAny (Calls.Constant_str (k := k2) (pos := b2) ?_)) (hs3 _ _ _ _))
  refine PySem.ESX.ldL (env := ownE qual st s.heap.objs.size fI cda cc) ns3 hself ?_ S.hk (S.loc _ (by simp)) (by decide)
  refine store2 (nl := [f]) hC hbm T.cls.sa hno2 KX3 he3 hn3 (fun x hx => ?_) (by simp) fun h4 tk4 k4 hn4 => ?_
  · by_cases e : x = f
    · rw [e]
      exact List.mem_singleton.mpr rfl
    · rw [if_neg e] at hx
      exact absurd rfl hx
  have hsz : s.heap.objs.size ≤ dx := by
    have : h2.objs.size ≤ dx := hdx
    omega
  have he4 := k4 _ _ (Ne.symm hdxa) he3
  refine err_end (H := H) (fs := [("code", .str code), (f, y)]) e0 ha (fun b o hb z => ?_) hsz hdxa he4 hn4 (fun g => ?_) (q dx (e0.hok.fresh hsz) hdxa)
  · have z2 := k2' b o hb (k1 b o z)
    have z3 := k3' b o hb z2
    exact k4 b o (Nat.ne_of_lt (Nat.lt_of_lt_of_le (Heap.lt_size z) hsz)) z3
  · exact relO_put (y := .str code) ⟨_, rfl⟩ (relO_put (fs := []) (mA := fun _ => none) ry fun g => True.intro) g
end
/-- what the text of an error's __init__ says -/
def ErrD1 (st : Stmt) (qual f msg code : Str) : Prop := ∃ (k k2 : Nat) (p0 p1 p2 p3 p4 p5 a0 a1 a2 a3 b0 b1 b2 b3 : Pos),
  defBody st = [.Expr (supE msg k p0 p1 p2 p3 p4) p5, .Assign [.Attribute (.Name "self" a0) f a1] (.Name f a2) a3, .Assign [.Attribute (.Name "self" b0) "code" b1] (.Constant (.str code) k2 b2) b3] ∧ ErrT st qual ["self", f] msg k p0 p1 p2 p3 p4 p5 ∧
  (∀ (L fI cda cc : Addr), swapsWith (.Name f a2) (some (.Attribute (.Name "self" a0) f a1)) a3.line (ownE qual st L fI cda cc) = pure false) ∧ ∀ (L fI cda cc : Addr), swapsWith (.Constant (.str code) k2 b2) (some (.Attribute (.Name "self" b0) "code" b1)) b3.line (ownE qual st L fI cda cc) = pure false
section
variable {P : Program} {w : World} {K : PySem.W.Frag} {mg : Str → Option Value} {base : Heap} {C fI : Addr} {st : Stmt} {qual : Str} {fd : FuncData}
theorem errOkD1 (T : ErrC P K mg C fI st qual fd) {f msg code : Str} (S : ErrD1 st qual f msg code) (hno1 : PySem.W.findIn K (.ref C) f = some none) (hno2 : PySem.W.findIn K (.ref C) "code" = some none) (hne : f ≠ "self") (hdf : (f == ("__debug__" : Str)) = false) : FnOk P w K mg base (L2.CX P w) 1 fI fd ["self", f] (spErr K C (some f) code) := by
  obtain ⟨k, k2, p0, p1, p2, p3, p4, p5, a0, a1, a2, a3, b0, b1, b2, b3, hb, ht, h2, h3⟩ := S
  exact errOk1 T ht hb h2 h3 hno1 hno2 hne hdf
end
section
variable {X : Cx} {e : Expr} {es : List Expr} {ta : TA} {x : Str} {p pos : Pos} {C fI : Addr} {fd : FuncData} {k : Nat}
theorem err_heap {H1 : Hp} {a d C : Addr} {fs : List (Str × V)} (ha : H1 a = none) (hda : d ≠ a) : upd (del (upd (upd (upd H1 a (exo a C none)) a (exo a C (some d))) d (exd d fs)) a) d (.xd fs) = upd H1 d (.xd fs) := by
  funext b
  by_cases hb : b = d
  · subst hb
    rw [upd_same, upd_same]
  · rw [upd_ne hb, upd_ne hb]
    by_cases hba : b = a
    · subst hba
      rw [del_same, ha]
    · rw [del_ne hba, upd_ne hb, upd_ne hba, upd_ne hba]
theorem sp_err {K : PySem.W.Frag} {f : Option Str} {code : Str} {y : Option V} {H1 : Hp} {Q : XK} {E : XK} {a : Addr} (hl : f.isSome = y.isSome) (ha : H1 a = none) (h : ∀ d, H1 d = none → Q (.ref C) (some d) (upd H1 d (.xd (fsOf (fldO f y) code)))) :
    spErr K C f code (.ref a :: (vsOf y ++ [])) (upd H1 a (exo a C none)) (fun v H2 => v = .non ∧ ∃ (d : Addr) (fs : List (Str × V)), H2 a = some (exo a C (some d)) ∧ H2 d = some (exd d fs) ∧ H1 d = none ∧ Q (.ref C) (some d) (upd (del H2 a) d (.xd fs))) E := by
  refine ⟨a, y, by rw [List.append_nil], hl, upd_same, fun d hd hda => ⟨rfl, d, _, by rw [upd_ne (Ne.symm hda), upd_same], upd_same, by rw [upd_ne hda] at hd; exact hd, ?_⟩⟩
  rw [err_heap ha hda]
  rw [upd_ne hda] at hd
  exact h d hd
theorem passN : Passes (L2.CX X.prog X.w) X (fun _ _ _ => False) := fun pins σ H s e s' I h => h.choose_spec.choose_spec.choose_spec.choose_spec.choose_spec.2.2.2.2.2.2.2.elim
end
/-- raise C(..) -/
def errN (f : Option Str) : List Str := match f with
  | none => ["code"]
  | some f => ["code", f]
def arN (f : Option Str) : Nat := match f with
  | none => 0
  | some _ => 1
def raiseM {α : Type} (C : Addr) (n : Nat) (f : Option Str) (code : Str) (as : M (List D)) : M α := as >>= fun ds => fun ρ => if ds.length = arN f then .ex ⟨C, n, errN f, .str code :: ds⟩ ρ else .no
section
variable {X : Cx} {E : WX} {e : Expr} {es : List Expr} {as : M (List D)} {x : Str} {p pos pos' : Pos} {C fI : Addr} {fd : FuncData} {k n : Nat} {ps : List Str} {f : Option Str} {code : Str}
theorem raise_core {σ : L2.St} {B : Fz} {H : Hp} {ρ : Rho} {ds : List D} {vs : List V} {H1 : Hp} {B1 : Fz} {ρ1 : Rho} {Dn : Ends} (st1 : Step X.K σ B H ρ σ B1 H1 ρ1) (ra : Reps X.K B1 ds vs)
    (h : AtS X.K E σ B H ρ Dn (if ds.length = arN f then .ex ⟨C, n, errN f, .str code :: ds⟩ ρ1 else .no)) : ∃ y : Option V, vs = vsOf y ∧ f.isSome = y.isSome ∧ ∀ d, H1 d = none → E (.ref C) (some d) σ (upd H1 d (.xd (fsOf (fldO f y) code))) := by
  split at h
  · rename_i hl
    have hv : vs.length = ds.length := ra.length.symm
    cases f with
    | none =>
      have h0 : ds = [] := List.eq_nil_of_length_eq_zero hl
      subst h0
      have h1 : vs = [] := List.eq_nil_of_length_eq_zero hv
      subst h1
      refine ⟨none, rfl, rfl, fun d hd => ?_⟩
      have s2 := st1.trans (st1.cf.laid hd (.xd (fsOf (fldO none none) code)))
      exact h (some d) σ _ _ s2 (.inr ⟨d, [.str code], rfl, Fz.upd_same, rfl, Reps.cons (by simp only [Rep]) Reps.nil⟩)
    | some f =>
      match ds, vs, ra, hl, h with
      | [d0], vs, ra, _, h =>
        simp only [Reps] at ra
        obtain ⟨y, ys, rfl, r1, rfl⟩ := ra
        refine ⟨some y, rfl, rfl, fun d hd => ?_⟩
        have s3 := st1.cf.laid hd (.xd (fsOf (fldO (some f) (some y)) code))
        have s2 := st1.trans s3
        exact h (some d) σ _ _ s2 (.inr ⟨d, [.str code, y], rfl, Fz.upd_same, rfl, Reps.cons (by simp only [Rep]) (Reps.cons (r1.mono s3.bb) Reps.nil)⟩)
  · exact h.elim
theorem sd_raise (hc : X.calm = true) (tk : Takes X E) (T : OexC X.K C) (iC : PySem.W.findIn X.K (.ref C) "__init__" = some (some (.ref fI))) (tI : PySem.W.typeIn X.K (.ref fI) = some (.type "function"))
    (F1 : FnOk X.prog X.w X.K X.mg X.base (L2.CX X.prog X.w) k fI fd ps (spErr X.K C f code)) (hr : Room (k + 1) X.A) (hb : Binds X.K fd ps []) (hg : Gl X x) (hm : X.mg x = some (.ref C)) (ha : PA X (e :: es) (tL X.K E as))
    (hdb : (x == ("__debug__" : Str)) = false := by decide) (he : starEach (e :: es) X.env = (false, eval e X.env) :: starEach es X.env := by rfl) (hpl : (backTo pos (starEach es X.env)).any (·.1) = false := by rfl) :
    PS X (.Raise (some (.Call (.Name x p) (e :: es) [] pos)) none pos') (tS X.K E (raiseM C n f code as)) := by
  refine ps_weak (ps_raise hc tk (pmk_oex (dvs := []) (ds := []) T iC tI F1 hr hb .nil passN hg hm ha hdb he hpl)) ?_
  rintro Dn σ H ⟨B, ρ, c0, h⟩
  refine ⟨B, ρ, c0, h.seq.imp ?_⟩
  rintro d ρ' vs B' H1 - - - ⟨ds, B1, ρ1, st1, ra, h1⟩
  have ra : Reps X.K B1 ds vs := ra
  obtain ⟨y, rfl, hy, q⟩ := raise_core st1 ra h1
  exact ⟨by cases y <;> simp [vsOf], fun a ha => sp_err (Q := fun cls d H' => E cls d σ H') hy ha q⟩
end
theorem errB {P : Program} {K : PySem.W.Frag} {mg : Str → Option Value} {C fI : Addr} {st : Stmt} {qual : Str} {fd : FuncData} {ps : List Str} (T : ErrC P K mg C fI st qual fd)
    (h : ∀ (kV doc pm : Value) (an : Option Addr) (cdv ct : Value) (cc : Addr) (us : List Value), us.length = ps.length → bindArgs (PySem.W.ksFn "__init__" qual (defArgs st) (defBody st) (defScope st) .none kV doc pm an cdv ct cc) ⟨us, []⟩ = pure (ps.zip us)) : Binds K fd ps [] := by
  obtain ⟨oc, od, kV, doc, pm, ct, an, osl, cda, cc, rfl, _⟩ := T.fn
  exact .all (h kV doc pm an _ ct cc)
end Nc
namespace Nc
open PySem PySem.Spec PyProof.Rows L2 StX
def ckA (_ : D) : Bool := true
def ckLen : D → Bool
  | .int n => decide (0 ≤ n) && decide (n < 2 ^ 63)
  | _ => false
def ckStr : D → Bool
  | .str _ => true
  | _ => false
/-- a def that raises nothing, its answer looked at -/
def ckF (ck : D → Bool) (F : Fn) (ds : List D) : M D := fun ρ => match F ds ρ.g with
  | .ok d g => if ck d = true then .ok d ⟨ρ.l, g⟩ else .no
  | _ => .no
def binOM (C : Addr) (F : Fn) (fa fb : M D) : M D := fa >>= fun d => fb >>= fun e => getO (.d d) >>= fun d0 => M.opt (isObD C d0) >>= fun _ => getO (.d e) >>= fun e0 => M.opt (isObD C e0) >>= fun _ => callF F [d, e]
def eqOM (C : Addr) (F : Fn) (fa fb : M D) : M D := fa >>= fun d => fb >>= fun e => getO (.d d) >>= fun d0 => M.opt (isObD C d0) >>= fun _ => getO (.d e) >>= fun e0 => M.opt (isObD C e0) >>= fun _ => ckF ckA F [d, e]
def unOM (C : Addr) (ck : D → Bool) (F : Fn) (fa : M D) : M D := fa >>= fun d => getO (.d d) >>= fun d0 => M.opt (isObD C d0) >>= fun _ => ckF ck F [d]
end Nc
namespace Nc
open PySem PySem.Spec PyProof.Rows L2
def meKwM (C : Addr) (m : Str) (F : Fn) (p n : Nat) (perm : List Nat) (fo : M D) (as ks : M (List D)) : M D := fo >>= fun d => getO (.d d) >>= fun d0 => M.opt (slfD C m d0) >>= fun _ => as >>= fun ds => ks >>= fun zs => callF F (kwG (p + 1) n perm (d :: ds) zs)
section
variable {X : Cx} {E : WX} {C g : Addr} {m : Str} {e o : Expr} {es : List Expr} {fo : M D} {as ks : M (List D)} {F : Fn} {k p n : Nat} {fd : FuncData} {ps kn : List Str} {kws : List Keyword} {perm : List Nat} {apos pos : Pos} {pl : Sem Bool}
theorem run_methKS0 {sp : Sp} {W : L2.St → XK} {te : TE} {tk : TA} {gG : List Value → List Value → List Value} {gV : List V → List V → List V} (he : PE X o te) (c : Cls X.K C) (hm : Meth X.K C m g) (G : FnOk X.prog X.w X.K X.mg X.base (L2.CX X.prog X.w) k g fd ps sp) (hr : Room k X.A) (hb : KBinds X.K fd ps kn gG gV) (hx : ∀ σ, PassesAt (L2.CX X.prog X.w) X σ (W σ))
    (hkw : PK X kws tk)
    (hall : (backToKw pos (keywordEach kws X.env)).all (·.1.isSome) = true) (hks : (backToKw pos (keywordEach kws X.env)).filterMap (·.1) = kn)
    (hpl : ((backTo pos (starEach [] X.env)).any (·.1) || (backToKw pos (keywordEach kws X.env)).any (·.1.isNone)) = false)
    (ht : eval (.Call (.Attribute o m apos) [] kws pos) X.env = (do
      let ov ← eval o X.env
      standAt apos.atName
      let (f, first) ← holding [ov] (getMethod ov m pl)
      callWith pos f first (backTo pos (starEach [] X.env)) (backToKw pos (keywordEach kws X.env)))) :
    PE X (.Call (.Attribute o m apos) [] kws pos) (fun σ H Q => te σ H fun x H1 => ∃ a dx fs, x = .ref a ∧ H1 a = some (.ins C dx fs) ∧ fs.lookup m = none ∧ tk σ H1 fun zs H3 => sp (gV [x] zs) H3 Q (W σ)) := by
  refine ⟨fun pins s σ H Q I h => ?_⟩
  refine PySem.W.methodCall_KW (pl := pl) (thn (he.run pins s σ H _ I h) fun u s1 ⟨x, H1, I1, rx, a, dx, fs, ex, ea, l, q⟩ => ?_) ht
  subst ex
  obtain rfl : u = Value.ref a := rx
  refine getmeth_ok I1 ea c hm l ?_
  refine PySem.W.callWith_KW0 (first := [.ref a]) (h₀ := X.base) I1.ok.mod.kin hm.kp hall ?_ hpl
  refine thn (hkw.run pos pins s1 σ H1 _ I1 q) fun ws s3 ⟨zs, H3, I3, rz, q3⟩ => ⟨I3.kIn, ?_⟩
  rw [hks]
  exact run_fnkS (us := [.ref a]) (vs := [.ref a]) G hr hb (hx σ) I3 (.cons rfl .nil) rz q3
theorem pd_methKw0 (c : Cls X.K C) (hm : Meth X.K C m g) (G : FnOk X.prog X.w X.K X.mg X.base (L2.CX X.prog X.w) k g fd ps (spD X.K F)) (hr : Room k X.A) (hb : KBinds X.K fd ps kn (kwG (0 + 1) n perm) (kwG (0 + 1) n perm)) (tk : Takes X E) (he : PE X o (tD X.K E fo)) (hkw : PKD X E kws ks)
    (hall : (backToKw pos (keywordEach kws X.env)).all (·.1.isSome) = true := by rfl) (hks : (backToKw pos (keywordEach kws X.env)).filterMap (·.1) = kn := by rfl)
    (hpl : ((backTo pos (starEach [] X.env)).any (·.1) || (backToKw pos (keywordEach kws X.env)).any (·.1.isNone)) = false := by rfl)
    (ht : eval (.Call (.Attribute o m apos) [] kws pos) X.env = (do
      let ov ← eval o X.env
      standAt apos.atName
      let (f, first) ← holding [ov] (getMethod ov m pl)
      callWith pos f first (backTo pos (starEach [] X.env)) (backToKw pos (keywordEach kws X.env))) := by rfl) :
    PE X (.Call (.Attribute o m apos) [] kws pos) (tD X.K E (meKwM C m F 0 n perm fo (M.ret []) ks)) := by
  refine pe_weak (run_methKS0 he c hm G hr hb (fun σ => passAt tk σ) hkw hall hks hpl ht) ?_
  rintro σ H Q ⟨B, ρ, c0, h⟩
  refine ⟨B, ρ, c0, h.seq.imp ?_⟩
  rintro d ρ' x B' H1 - - - ⟨d, B1, ρ1, st1, rx, h1⟩
  have rx : Rep X.K B1 d x := rx
  obtain ⟨d0, e1, h1⟩ := h1.getO
  obtain ⟨u, ez, h1⟩ := h1.optSeq
  obtain ⟨a, dx, fs, ex, q1, l⟩ := slf_top (RK.top (H0 := H1) st1.cf (o := .d d) rx e1) ez
  refine ⟨a, dx, fs, ex, q1, l, ?_⟩
  have h2 : At X.K E (RD X.K) σ B1 H1 ρ1 Q ((ks >>= fun zs => callF F (kwG (0 + 1) n perm [d] zs)) ρ1) := h1
  refine ⟨B1, ρ1, st1.cf, h2.seq.imp ?_⟩
  rintro d3 ρ' ws B' H3 - - - ⟨zs, B3, ρ3, st3, rz, h3⟩
  have rz : Reps X.K B3 zs ws := rz
  exact call_core st3.cf (kwG_reps (Reps.cons (rx.mono st3.bb) Reps.nil) rz) h3
end
end Nc
namespace Nc
open PySem PySem.Spec PyProof.Rows L2
theorem xd_at {P : Program} {w : World} {H : Hp} {h : Heap} {dx : Addr} {l : List (Str × V)} (hok : HOk P w H h) (q : XdIn H dx l) : ∃ mA, h.Ns1 dx mA ∧ ∀ f, RelO (l.lookup f) (mA f) := by
  rcases q with q | q
  · exact exd_at hok q
  · exact hok dx _ q
end Nc
namespace Nc
open PySem PySem.Spec PyProof.Rows L2
theorem flying_kept {B h h' : Heap} {l : List Env} {e : Addr} {Z : Obj → Prop} (x : HandSPX.FlyingZ B l e Z h) (k : ∀ b o, h.get? b = some o → h'.get? b = some o) : HandSPX.FlyingZ B l e Z h' := by
  obtain ⟨f1, f2, f3, oe, vs, T, oT, ts, a1, a2, a3, a4, a5, a6, a7, a8, a9⟩ := x
  exact ⟨fun b o e => k _ _ (f1 b o e), f2, f3.of_keeps fun b o e _ => ⟨o, k _ _ e, rfl⟩, oe, vs, T, oT, ts, k _ _ a1, a2, a3, a4, a5, a6, k _ _ a7, a8, a9⟩
/-- what the clause wishes of an exception of the body -/
def wAsT (K : PySem.W.Frag) (cs : List Value) (i : Nat) (ts : Addr → Value → Option Addr → TS) (Wout : WX) (D : Ends) : WX := fun cls d σ H =>
  ∃ b, PySem.W.exmAny K cls cs = some b ∧ (b = true → ∀ a, H a = none → ts a cls d { nx := fun σ' H' => D.nx (σ'.set i none) H', rt := D.rt, bk := fun σ' H' => D.bk (σ'.set i none) H', ct := fun σ' H' => D.ct (σ'.set i none) H' } (σ.set i (some (.ref a))) H) ∧
    (b = false → Wout cls d σ H)
section
variable {X : Cx} {x1 x2 x3 n : Str} {c1 c2 c3 : Value} {i kk : Nat} {body suite : List Stmt} {b₀ : Stmt} {p1 p2 p3 tpos pos pos' : Pos} {tb : WX → TS} {ts : Addr → Value → Option Addr → TS} {Wout : WX}
theorem ps_try_tup (hs : X.stack = X.env :: X.outer) (hf : X.env.frame = some X.env.locals) (hN : X.N.Nodup) (hi : X.N[i]? = some n) (hln : X.env.kindOf n = some .local) (hc1 : Names X x1 c1) (hc2 : Names X x2 c2) (hc3 : Names X x3 c3) (tk : Takes X Wout)
    (hb : ∀ (W : WX) (pn : List (Addr × Obj)) (xe : Value → Shared → Prop), Takes (X.tr pn xe) W → PassesOwn (model X.prog X.w) X.A X.env xe → PSs (X.tr pn xe) body (tb W))
    (hsu : ∀ (a : Addr) (oe : Obj) (cls : Value) (d : Option Addr) (pn : List (Addr × Obj)), Zc cls d oe → (∃ vs, oe.data = .fields vs) → PSs (X.suite a ((a, oe) :: pn)) (b₀ :: suite) (ts a cls d)) :
    PS X (.Try body [.ExceptHandler (some (.Tuple [.Name x1 p1, .Name x2 p2, .Name x3 p3] kk tpos)) (some n) (b₀ :: suite) pos'] [] [] pos) (fun D σ H => tb (wAsT X.K [c1, c2, c3] i ts Wout D) D σ H) := by
  refine ⟨fun pins s σ H D I h => ?_⟩
  have ok := I.ok
  have hfr : X.A.frames = some (X.env :: X.outer) := by rw [ok.frames, hs]
  have hloc : Loc X.env.scope n := .inl hln
  refine wpAny_Try_except ?_
  refine wpAny_mono ((hb (wAsT X.K [c1, c2, c3] i ts Wout D) (X.pn ++ pins) (fun e s₁ => wpAny (model X.prog X.w) X.A (noteFrame e X.env) (fun _ s₂ => wpAny (model X.prog X.w) X.A (setFlight e none) (fun _ s₃ =>
    wpAny (model X.prog X.w) X.A (handleBy e X.env [.ExceptHandler (some (.Tuple [.Name x1 p1, .Name x2 p2, .Name x3 p3] kk tpos)) (some n) (b₀ :: suite) pos']) (SP X pins D) X.xe s₃) X.xe s₂) X.xe s₁) (fun u s' xx => ?_) PassesOwn.looking).run [] s σ H D (I.toTry _) h) (fun f s1 hsp => ?_) (fun e s1 he => he)
  · obtain ⟨a, B, sI, pins', σ', H', cls, d, rfl, J', nb, up, sky, na, os, ag, b, hb1, hyes, hno⟩ := xx
    have J : Inv X pins σ' H' sI := J'.ofTry ok
    have sky' : Sky B (X.env :: X.outer) a (Zc cls d) X.env.locals s'.heap := by rw [← hs]; exact sky
    show wpAny (model X.prog X.w) X.A (noteFrame (.ref a) X.env) _ _ _
    refine Sky.land Zc.steady hfr hf sky' fun h3 fl3 up3 => ?_
    have J3 : Inv X pins σ' H' { s' with heap := h3 } := J.landed nb fl3.1 (up.trans up3) os ag
    obtain ⟨oe3, vs3, he3, hz3, hd3⟩ := fl3.there
    have nfr : a ∉ frs (X.env :: X.outer) := fun hm => by
      obtain ⟨_, o', e', hnf⟩ := fl3.2.2.1.mem hm
      rw [he3] at e'; cases e'
      exact hnf _ hd3
    have nL : a ≠ X.env.locals := fun z => nfr (List.mem_filterMap.mpr ⟨X.env, List.mem_cons_self, by rw [hf, z]⟩)
    have nF : a ∉ X.fs := fun hm => by
      obtain ⟨e, he, q⟩ := List.mem_filterMap.mp hm
      exact nfr (List.mem_filterMap.mpr ⟨e, List.mem_cons_of_mem _ he, q⟩)
    have S3 := J3.suite he3 hd3 na nL nF
    have load : ∀ {x : Str} {c : Value} {p : Pos} {Q : Value → Shared → Prop} {E : Value → Shared → Prop}, Names X x c → Q c { s' with heap := h3 } → wpAny (model X.prog X.w) (X.A.mark (some (.ref a))) (eval (.Name x p) X.env) Q E { s' with heap := h3 } := fun {x c p Q E} hc q => by
      obtain ⟨hg, hdbg, hm | ⟨hm, hv, hnn⟩⟩ := hc
      · exact ld_glob (X := X.suite a ((a, oe3) :: (X.pn ++ pins))) S3 hg hm q hdbg
      · exact ld_blt (X := X.suite a ((a, oe3) :: (X.pn ++ pins))) S3 hg hm hv q hnn hdbg
    refine wpAny_handleBy_cons (codeAny_handlers_test ?_) (by intro q; cases q)
    refine wpAny_Tuple ?_
    refine wpAny_items_cons (load hc1 ?_)
    refine wpAny_items_cons (load hc2 ?_)
    refine wpAny_items_cons (load hc3 ?_)
    refine wpAny_items_nil ⟨by size_fits, ?_⟩
    have kp : ∀ b o, h3.get? b = some o → (h3.push { cls := .type "tuple", data := .seq [c1, c2, c3].toArray }).get? b = some o := fun _ _ z => Heap.get?_push_of_some _ z
    have fl3' := flying_kept fl3 kp
    have LT : PySem.W.Looks (model X.prog X.w) (h3.push { cls := .type "tuple", data := .seq [c1, c2, c3].toArray }) (typeOf (.ref a)) cls := fun A Q E s k q => wpAny_typeOf_ref (k _ _ (kp _ _ he3)) (by rw [hz3.1]; exact q)
    have upP : h3.UpToSlots (h3.push { cls := .type "tuple", data := .seq [c1, c2, c3].toArray }) := Heap.UpToSlots.of_keeps kp
    have J3' : Inv X pins σ' H' { s' with heap := h3.push { cls := .type "tuple", data := .seq [c1, c2, c3].toArray } } := J.landed nb fl3'.1 ((up.trans up3).trans upP) os ag
    refine (PySem.W.exm_tup3 (M := model X.prog X.w) J3'.kIn LT (Heap.get?_push_size h3 rfl) hb1).here ?_
    cases b with
    | true =>
      refine codeAny_handlers_suite_as ?_
      refine HandSPX.lands_againZ fl3' fun h4 fl4 up4 => ?_
      have J4 : Inv X pins σ' H' { s' with heap := h4 } := J.landed nb fl4.1 (((up.trans up3).trans upP).trans up4) os ag
      obtain ⟨oe4, vs4, he4, hz4, hd4⟩ := fl4.there
      have S4 := J4.suite he4 hd4 na nL nF
      refine store_ok (X := X.suite a ((a, oe4) :: (X.pn ++ pins))) (v := .ref a) S4 hN hi hloc rfl (fun s5 S5 => ?_) (.inr hln)
      refine wpAny_mono ((hsu a oe4 cls d (X.pn ++ pins) hz4 ⟨_, hd4⟩).run [] s5 _ H' _ S5 (hyes rfl a na)) (fun f s6 hsp => ?_) (fun _ _ z => False.elim z)
      have end_ : ∀ {σ6 : L2.St} {H6 : Hp} {Q : Shared → Prop}, Inv (X.suite a ((a, oe4) :: (X.pn ++ pins))) [] σ6 H6 s6 → (∀ s7, Inv X pins (σ6.set i none) H6 s7 → Q s7) →
          wpAny (model X.prog X.w) X.A (do bindName X.env n .none; unbindBehindTheSuite X.env n pos') (fun _ s7 => Q s7) X.xe s6 := fun {σ6 H6 Q} S6 hq => gone_ok (S6.unsuite ok) hN hi hln hq
      cases f with
      | next =>
        obtain ⟨σ6, H6, S6, q6⟩ := hsp
        exact end_ S6 fun s7 J7 => ⟨_, _, J7, q6⟩
      | brk =>
        obtain ⟨σ6, H6, S6, q6⟩ := hsp
        exact end_ S6 fun s7 J7 => ⟨_, _, J7, q6⟩
      | cont =>
        obtain ⟨σ6, H6, S6, q6⟩ := hsp
        exact end_ S6 fun s7 J7 => ⟨_, _, J7, q6⟩
      | ret u =>
        obtain ⟨v6, σ6, H6, S6, r6, q6⟩ := hsp
        exact end_ S6 fun s7 J7 => ⟨_, _, _, J7, r6, q6⟩
    | false =>
      show wpAny _ X.A (handleBy (.ref a) X.env []) _ _ _
      refine wpAny_handleBy_nil ?_
      obtain ⟨k1, k2, k3, oe, vs, T, oT, ts', he, hz, hd, h1, hr⟩ := id fl3'
      unfold PySem.passOn
      refine wpAny_bind (wpAny_field he hd h1 ?_)
      rw [if_neg (show ¬ ((Value.ref T == Value.none) = true) from by simp)]
      have fin : wpAny (model X.prog X.w) X.A (setFlight (.ref a) X.env.frame) (fun _ s4 => wpAny (model X.prog X.w) X.A (throw (.ref a) : Sem Flow) (SP X pins D) X.xe s4) X.xe { s' with heap := h3.push { cls := .type "tuple", data := .seq [c1, c2, c3].toArray } } := by
        rw [hf]
        refine HandSPX.setFlight_upZ fl3' fun h4 hh4 up4 => wpAny_throw (tk _ _ ?_)
        exact ⟨a, B, sI, pins, σ', H', cls, d, rfl, J, nb, (((up.trans up3).trans upP)).trans up4, .inr (.inr (by rw [hs]; exact hh4)), na, os, ag, hno rfl⟩
      first
        | exact wpAny_bind (wpAny_pure (wpAny_bind fin))
        | exact wpAny_bind fin
  · cases f with
    | next =>
      obtain ⟨σ', H', J', q⟩ := hsp
      exact wpAny_execs_nil ⟨σ', H', J'.ofTry ok, q⟩
    | brk =>
      obtain ⟨σ', H', J', q⟩ := hsp
      exact ⟨σ', H', J'.ofTry ok, q⟩
    | cont =>
      obtain ⟨σ', H', J', q⟩ := hsp
      exact ⟨σ', H', J'.ofTry ok, q⟩
    | ret u =>
      obtain ⟨v, σ', H', J', r, q⟩ := hsp
      exact ⟨v, σ', H', J'.ofTry ok, r, q⟩
end
end Nc
set_option maxHeartbeats 2000000
namespace Nc
open PySem PySem.Spec PyProof.Rows L2
/-- what a def promises while p's object is handled -/
structure FnP (P : Program) (w : World) (K : PySem.W.Frag) (mg : Str → Option Value) (base : Heap) (CX : CXT) (k : Nat) (f : Addr) (fd : FuncData) (ps : List Str) (sp : Addr × Obj → Sp) : Prop where
  len : ∀ p vs H Q E, sp p vs H Q E → vs.length = ps.length
  run : ∀ (A : Around) (outer : List Env) (s : Shared) (H : Hp) (args : Args) (us : List Value) (vs : List V) (Q : VK) (E : XK) (p : Addr × Obj), L2H.RoomH k A → L2H.PinOk outer H s p → Env0 P w K mg base A outer s H → BindsTo s fd args (ps.zip us) → Vals vs us → sp p vs H Q E →
    codeAny (model P w) A (.call (.ref f) args) (CR CX outer P w H s Q E) s
theorem fn_ofP {CX : CXT} {P : Program} {w : World} {K : PySem.W.Frag} {mg : Str → Option Value} {base : Heap} {k : Nat} {x qual : Str} {st : Stmt} {f : Addr} {fd : FuncData} {N ps : List Str} {sp : Addr × Obj → Sp} (F : Fun K x qual st f fd) (S : FnScope N ps (defScope st))
    (len : ∀ p vs H Q E, sp p vs H Q E → vs.length = ps.length)
    (hbody : ∀ (cdv : Value) (A : Around) (outer : List Env) (s : Shared) (H : Hp) (vs : List V) (Q : VK) (E : XK) (p : Addr × Obj), L2H.RoomH k (A.deeper (envOfC qual (defScope st) s.heap.objs.size f cdv)) → sp p vs H Q E →
      ∃ t, PSs (L2H.cxH CX P w K mg base N qual (defScope st) f cdv A outer s H E p) (defBody st) t ∧ t { nx := fun _ H' => Q .non H', rt := Q } (L2.start N vs) H) :
    FnP P w K mg base CX (k + 1) f fd ps sp := by
  obtain ⟨oc, od, kV, doc, pm, an, cdv, ct, osl, rfl, lk, hcd⟩ := F.ex
  refine ⟨len, fun A outer s H args us vs Q E p hr hpin e0 hb r hsp => ?_⟩
  have hl := len _ _ _ _ _ hsp
  have KX : K.In s.heap := e0.mod.kin.keeps fun b o e => (e0.bs b o e).1
  have lim : s.heap.NoLimit := e0.mod.nolimit.keeps fun b o e => (e0.bs b o e).1
  have hkind : ∀ y ∈ ps.zip us, (defScope st).names.lookup y.1 = some .local ∨ ((defScope st).names.lookup y.1 = some .cell ∧ ((cellsFrom (s.heap.objs.size + 1) (defScope st).names []).lookup y.1).isSome = true) := fun ⟨n, v⟩ hy => by
    rcases S.par n (List.of_mem_zip hy).1 with q | q
    · exact .inl q
    · exact .inr ⟨q, PySem.W.cellsFrom_some _ _ _ (.inl q)⟩
  refine codeAny_call_function hr.depth (KX _ _ lk) rfl S.co S.gen rfl (PySem.W.codeRec_of KX hcd) (hb _ _ _ _ ?_)
  refine wpAny_newFunctionEnv_cells S.kind hkind fun env he s1 x => ?_
  subst he
  refine ⟨lim.keeps x.toInCall.keep, codeAny_func ?_⟩
  obtain ⟨t, ht, hq⟩ := hbody cdv A outer s H vs Q E p (hr.deeper _) hsp
  have I := L2H.inv_startH (CX := CX) (w := w) (E := E) S hpin e0 hl r x
  refine wpAny_mono (ht.run [] s1 (L2.start N vs) H _ I hq) (fun fl s' hs => ?_) fun e s' hs => hs
  cases fl with
  | ret u =>
    obtain ⟨v, σ', H', J, rv, q⟩ := hs
    exact ⟨v, H', J.os, J.bare, J.base, J.hok, rv, q⟩
  | next =>
    obtain ⟨σ', H', J, q⟩ := hs
    exact ⟨.non, H', J.os, J.bare, J.base, J.hok, rfl, q⟩
  | brk =>
    obtain ⟨_, _, _, q⟩ := hs
    exact False.elim q
  | cont =>
    obtain ⟨_, _, _, q⟩ := hs
    exact False.elim q
section
variable {X : Cx} {k : Nat} {f : Addr} {fd : FuncData} {ps : List Str} {sp : Addr × Obj → Sp} {x : Str} {q pos : Pos} {e : Expr} {es : List Expr} {t : TA} {p : Addr × Obj}
/-- f(..) in the suite, no error leaves it -/
theorem pe_callP (F : FnP X.prog X.w X.K X.mg X.base (L2.CX X.prog X.w) k f fd ps sp) (hr : L2H.RoomH k X.A) (hp : p ∈ X.pn) (hg : Gl X x) (hm : X.mg x = some (.ref f)) (hk : PySem.W.keepIn X.K (.ref f) = true) (hb : Binds X.K fd ps [])
    (ha : PA X (e :: es) t) (hdb : (x == ("__debug__" : Str)) = false := by decide) (he : starEach (e :: es) X.env = (false, eval e X.env) :: starEach es X.env := by rfl) (hpl : (backTo pos (starEach es X.env)).any (·.1) = false := by rfl) :
    PE X (.Call (.Name x q) (e :: es) [] pos) (fun σ H Q => t σ H fun vs H1 => sp p vs H1 Q (fun _ _ _ => False)) := by
  refine ⟨fun pins s σ H Q I h => ?_⟩
  refine wpAny_Call_Name_kw (ld_glob I hg hm ?_ hdb)
  refine PySem.W.callWith_K (h₀ := X.base) I.ok.mod.kin hk (thn (ha.run pos pins s σ H _ I h) fun us s1 ⟨vs, H1, I1, r, q⟩ => ⟨I1.kIn, ?_⟩) he hpl
  have hl : us.length = ps.length := by rw [← r.length]; exact F.len _ _ _ _ _ q
  have b := hb s1 us I1.kIn (by rw [List.append_nil]; exact hl)
  rw [List.append_nil] at b
  have P1 := I1.pin p (List.mem_append_left _ hp)
  have hpin : L2H.PinOk X.stack H1 s1 p := ⟨P1.1, P1.2.1, fun hm => (List.mem_cons.mp (I1.stkSub p.1 hm)).elim P1.2.2.1 P1.2.2.2.1, P1.2.2.2.2⟩
  refine wpAny_call (codeAny_mono (F.run X.A X.stack s1 H1 ⟨us, []⟩ us vs Q _ p hr hpin I1.env0 b r q) fun r s' hq => ?_)
  cases r with
  | error e => exact passN pins σ _ s1 e s' I1 hq
  | ok fl =>
    cases fl with
    | ret u => exact I1.after hq
    | next => exact False.elim hq
    | brk => exact False.elim hq
    | cont => exact False.elim hq
/-- e.f, e the handled error -/
def tXp (a dx : Addr) (f : Str) (te : TE) : TE := fun σ H Q => te σ H fun x H1 => ∃ (l : List (Str × V)) (v : V), x = .ref a ∧ XdIn H1 dx l ∧ l.lookup f = some v ∧ Q v H1
theorem pe_xp {C dx : Addr} {te : TE} {n : Str} (T : XfC X.K C) (hno : PySem.W.findIn X.K (.ref C) n = some none) (hp : p ∈ X.pn) (hz : Zc (.ref C) (some dx) p.2) (hd : ∃ vs, p.2.data = .fields vs) (he : PE X e te) (hb : attributeBase e n X.env (eval e X.env) = eval e X.env := by rfl) :
    PE X (.Attribute e n pos) (tXp p.1 dx n te) := by
  refine ⟨fun pins s σ H Q I h => ?_⟩
  refine attr_of hb (thn (he.run pins s σ H _ I h) fun u s1 hh => ?_)
  obtain ⟨x, H1, I1, rx, l, v, ex, hd1, hl, q⟩ := hh
  subst ex
  obtain rfl : u = Value.ref p.1 := rx
  obtain ⟨hoe, _⟩ := I1.pin p (List.mem_append_left _ hp)
  obtain ⟨vs, hdat⟩ := hd
  obtain ⟨mA, hns, hr⟩ := xd_at I1.hok hd1
  obtain ⟨od, ho, hlk⟩ := lookIn_ns hns
  obtain ⟨u, hu, ru⟩ := RelO.some_of (v := v) (o := mA n) (by rw [← hl]; exact hr n)
  have J : PySem.W.InstAt s1.heap p.1 p.2 C (some od) := ⟨hoe, hz.1, by unfold PySem.W.notCls; rw [hdat] <;> rfl, by rw [hz.2]; exact ho⟩
  exact HandSPX.exc_get I1.kIn J T.ga T.gg T.exC (PySem.W.findObj_own T.hdC hno rfl (by rw [hlk, hu])) (handed_of ru) ⟨v, H1, I1.tok _, ru, q⟩
end
def fldXP (a dx : Addr) (f : Str) : D → Option D
  | .xp a' dx' fs ds => if a' = a ∧ dx' = dx then fldL f fs ds else none
  | _ => none
section
variable {X : Cx} {E : WX} {f : Str} {e : Expr} {fa : M Opd} {pos : Pos} {p : Addr × Obj} {C dx : Addr}
theorem pk_fldP (T : XfC X.K C) (hno : PySem.W.findIn X.K (.ref C) f = some none) (hp : p ∈ X.pn) (hz : Zc (.ref C) (some dx) p.2) (hd : ∃ vs, p.2.data = .fields vs) (ha : PE X e (tK X.K E fa)) (hb : attributeBase e f X.env (eval e X.env) = eval e X.env := by rfl) :
    PE X (.Attribute e f pos) (tD X.K E (k1 (fldXP p.1 dx f) fa)) := by
  refine pe_weak (pe_xp T hno hp hz hd ha hb) ?_
  rintro σ H Q ⟨B, ρ, c0, h⟩
  refine ⟨B, ρ, c0, h.seq.imp ?_⟩
  rintro d ρ' x B' H1 - - - ⟨o, B1, ρ1, st1, rx, h1⟩
  obtain ⟨d, e1, h1⟩ := h1.getO
  obtain ⟨z, ez, k⟩ := h1.opt
  have top := RK.top st1.cf rx e1
  cases d <;> simp only [fldXP, reduceCtorEq] at ez
  split at ez
  · rename_i a' dx' fs ds hC'
    obtain ⟨rfl, rfl⟩ := hC'
    have top : Rep X.K B1 (.xp p.1 dx' fs ds) x := top
    simp only [Rep] at top
    obtain ⟨rfl, xs, q5, q2, q3⟩ := top
    obtain ⟨v, l, r⟩ := fldL_rep q3 ez
    exact ⟨_, v, rfl, q5.mono st1.cf.bh, l, k _ _ _ (Step.refl st1.cf) r⟩
  · cases ez
end
end Nc
set_option maxHeartbeats 2000000
namespace Nc
open PySem PySem.Spec PyProof.Rows L2 LamX
/-- the table at P with a code object more, or the same -/
def TabUp (P : Addr) (q : Str) (H H1 : Hp) : Prop := H1 = H ∨ ∃ (c : Addr) (ps : Array Value) (pos : Pos), H P = some (.tbl ps) ∧ H c = none ∧ H1 = upd (upd H P (.tbl (ps ++ #[rawInt pos.line, rawInt pos.col, .ref c]))) c (CodeO c q)
section
variable {X : Cx} {pins : List (Addr × Obj)} {σ : L2.St} {H : Hp} {s : Shared}
theorem lam_make3 {c P : Addr} {params : Arguments} {body : Expr} {scope : Scope} {pos : Pos} {E : Value → Shared → Prop} {Q : Value → Shared → Prop} (I : Inv X pins σ H s) (TB : TabB X.base X.mg c P) (hcode : X.env.code = .ref c)
    (hT : TabS H P (X.env.qual ++ "<lambda>")) (hdef : defaultsOf params X.env = ([], [])) (hfree : ∀ y ∈ scope.names, y.2 = .free → ∃ c, X.env.cells.lookup y.1 = some c)
    (h : ∀ (f c' : Addr) (pm ctv : Value) (H1 : Hp) (s' : Shared), Inv X pins σ H1 s' → TabUp P (X.env.qual ++ "<lambda>") H H1 → TabS H1 P (X.env.qual ++ "<lambda>") →
      s'.heap.get? f = some (PySem.W.kla_obj "<lambda>" (X.env.qual ++ "<lambda>") params body scope (cloFrom X.env.cells scope.names []) pm c' ctv) → H1 f = none → f ∉ frs X.stack → H1 c' = some (CodeO c' (X.env.qual ++ "<lambda>")) → Q (.ref f) s') :
    wpAny (model X.prog X.w) X.A (eval (.Lambda params body scope pos) X.env) Q E s := by
  obtain ⟨ps, hP, ht, ha⟩ := hT
  refine PySem.W.kla_eval hdef ?_
  have bP : s.heap.BuiltinsAt X.mg P := TB.bm.keeps I.bk
  have hP' : s.heap.get? P = some { cls := .none, data := .fields ps } := I.hok P _ hP
  have nofr : ∀ f, s.heap.objs.size ≤ f → f ∉ frs X.stack := fun f hf z => by
    rcases List.mem_cons.mp (I.stkSub _ z) with e | e
    · have h1 := I.lt
      rw [← e] at h1
      exact Nat.lt_irrefl _ (Nat.lt_of_lt_of_le h1 hf)
    · exact I.nofs hf e
  cases hc : codeAmong pos ps.toList with
  | none =>
    refine PySem.W.kla_makeFunction (mg := X.mg) (c := c) (P := P) (ps := ps) (closure_ok hfree) I.ok.glob (I.mod.glob.keeps I.bk) hcode (TB.code.keeps I.bk) hP' ht hc TB.gP bP fun c' ctv h' tk hx hge hlt hrec htb => ?_
    obtain ⟨c2, oc, vs, t, e2, hoc, hd, hv⟩ := hrec
    cases e2
    have hsz : s.heap.objs.size ≤ h'.objs.size := Nat.le_trans hge (Nat.le_of_lt hlt)
    have nC : H c' = none := I.hok.fresh hge
    have I1 := inv_table (t' := tk) (more := #[rawInt pos.line, rawInt pos.col, .ref c']) (h' := h'.push (PySem.W.kla_obj "<lambda>" (X.env.qual ++ "<lambda>") params body scope (cloFrom X.env.cells scope.names []) ((X.mg "__name__").getD .none) c' ctv)) I hP
      (fun b o hb e => Heap.get?_push_of_some _ (hx b o hb e)) (Heap.get?_push_of_some _ htb) hge ⟨oc, vs, t, Heap.get?_push_of_some _ hoc, hd, hv⟩
    have eL : (ps ++ #[rawInt pos.line, rawInt pos.col, .ref c']).toList = ps.toList ++ [rawInt pos.line, rawInt pos.col, .ref c'] := by simp
    refine h h'.objs.size c' ((X.mg "__name__").getD .none) ctv _ _ I1 (.inr ⟨c', ps, pos, hP, nC, rfl⟩) ⟨_, by rw [upd_ne (ne_of_none hP nC), upd_same], by rw [eL]; exact PySem.TriplesOk_snoc _ _ _ _ ht, fun p' cv hcv => ?_⟩ (Heap.get?_push_size _ rfl) ?_ (nofr _ hsz) upd_same
    · rw [eL] at hcv
      rcases among_app _ ht hcv with z | z
      · obtain ⟨c0, e1, e2⟩ := ha p' cv z
        refine ⟨c0, e1, ?_⟩
        rw [upd_ne (ne_of_none e2 nC), upd_ne (fun z => codeO_ne ps (Option.some.inj (e2.symm.trans (by rw [z]; exact hP))))]
        exact e2
      · exact ⟨c', z, upd_same⟩
    · have n1 : h'.objs.size ≠ c' := Nat.ne_of_gt hlt
      have n2 : h'.objs.size ≠ P := Nat.ne_of_gt (Nat.lt_of_lt_of_le (Heap.lt_size hP') hsz)
      rw [upd_ne n1, upd_ne n2]
      exact I.hok.fresh hsz
  | some cv =>
    obtain ⟨c', e, hco⟩ := ha pos cv hc
    subst e
    refine PySem.W.kla_makeFunctionHit (mg := X.mg) (c := c) (P := P) (ps := ps) (closure_ok hfree) I.ok.glob (I.mod.glob.keeps I.bk) hcode (TB.code.keeps I.bk) hP' ht hc bP fun ctv h' tk hx hsz => ?_
    have I1 : Inv X pins σ H { s with heap := h'.push (PySem.W.kla_obj "<lambda>" (X.env.qual ++ "<lambda>") params body scope (cloFrom X.env.cells scope.names []) ((X.mg "__name__").getD .none) c' ctv), toks := tk } := I.kept fun b o e => Heap.get?_push_of_some _ (hx b o e)
    exact h h'.objs.size c' ((X.mg "__name__").getD .none) ctv H _ I1 (.inl rfl) ⟨ps, hP, ht, ha⟩ (Heap.get?_push_size _ rfl) (I.hok.fresh hsz) (nofr _ hsz) hco
end
section
variable {X : Cx} {pins : List (Addr × Obj)} {σ : L2.St} {H : Hp} {s : Shared}
/-- x(), in the def that got the lambda: what may come out is asked for at the very slots -/
theorem pe_act3 {CXg : CXT} {Eg : XK} {Ng : List Str} {qg : Str} {sg : Scope} {g f c' : Addr} {cdg pm ctv : Value} {params : Arguments} {body : Expr} {scope : Scope} {k i : Nat} {a : Str} {pn : List (Addr × Obj)} {xe : Value → Shared → Prop} {W : WX} {E : XK} {tb : TE} {p1 p2 : Pos}
    (I : Inv X pins σ H s) (L : LamS X.env.scope scope) (hf : s.heap.get? f = some (PySem.W.kla_obj "<lambda>" (X.env.qual ++ "<lambda>") params body scope (cloFrom X.env.cells scope.names []) pm c' ctv)) (hfn : H f = none) (hfr : f ∉ frs X.stack)
    (hbind : bindArgs (PySem.W.kla_fn "<lambda>" (X.env.qual ++ "<lambda>") params body scope (cloFrom X.env.cells scope.names []) pm (.ref c') ctv) ⟨[], []⟩ = pure [])
    (tk : Takes ((cxOf CXg X.prog X.w X.K X.mg X.base Ng qg sg g cdg X.A X.stack s H Eg).tr pn xe) W) (hr : Room (k + 1) (X.A.deeper (envOfC qg sg s.heap.objs.size g cdg)))
    (hbody : ∀ (A : Around) (outer : List Env) (s : Shared) (H : Hp), Room k (A.deeper (lamEnv X scope s.heap.objs.size f c')) → PE (lamCx X A outer s H E scope f c') body tb)
    (hN : Ng[i]? = some a) (hv : Vis sg a) (hd : (a == ("__debug__" : Str)) = false := by decide) (hcd : (a == ("__classdict__" : Str)) = false := by decide) :
    PE ((cxOf CXg X.prog X.w X.K X.mg X.base Ng qg sg g cdg X.A X.stack s H Eg).tr pn xe) (.Call (.Name a p1) [] [] p2)
      (fun σZ HZ Q => σZ[i]? = some (some (.ref f)) ∧ HZ c' = some (CodeO c' (X.env.qual ++ "<lambda>")) ∧ (∀ cls d H', E cls d H' → W cls d σZ H') ∧ tb σ HZ Q) := by
  refine ⟨fun pinsZ sZ σZ HZ Q IZ h => ?_⟩
  obtain ⟨hs, hc, hW, ht⟩ := h
  refine wpAny_Call_Name_kw (thn ((pe_var (pos := p1) (i := i) hN hv hd hcd).run pinsZ sZ σZ HZ (fun v H1 => v = .ref f ∧ H1 = HZ) IZ ⟨.ref f, hs, rfl, rfl⟩) fun u s1 ⟨v, H1, I1, r1, q1⟩ => ?_)
  obtain ⟨ev, eH⟩ := q1
  subst ev
  rw [eH] at I1
  obtain rfl : u = Value.ref f := r1
  have of1 : s1.heap.get? f = some (PySem.W.kla_obj "<lambda>" (X.env.qual ++ "<lambda>") params body scope (cloFrom X.env.cells scope.names []) pm c' ctv) := I1.base.keep f _ hf hfn hfr (fun z => nomatch (show f ∈ ([] : List Addr) from z))
  refine PySem.W.callWith_F0 ⟨_, _, _, _, of1⟩ ?_
  have un : Un (frs X.stack) [] H HZ s.heap s1.heap := I1.base
  obtain ⟨⟨oc, vs, t, hoc, hdc, hvc⟩, _, _⟩ := I1.hok c' _ hc
  have rc : codeAny (model X.prog X.w) (X.A.deeper (envOfC qg sg s.heap.objs.size g cdg)) (.call (.ref f) ⟨[], []⟩) (CR (L2.CX X.prog X.w) (envOfC qg sg s.heap.objs.size g cdg :: X.stack) X.prog X.w HZ s1 Q E) s1 := by
    refine PySem.W.kla_callFunE hr.depth of1 rfl L.co L.gen rfl ⟨c', oc, vs, t, rfl, hoc, hdc, hvc⟩ ?_
    rw [hbind]
    refine wpAny_pure (wpAny_newFunctionEnv (fun y hy => (L.own y hy).2) (fun y hy => absurd hy (by simp)) (fun h₁ hns hsb => ⟨I1.nolimit.fresh _ hsb, ?_⟩) L.kind)
    show codeAny _ _ (.expr body (lamEnv X scope s1.heap.objs.size f c')) _ _
    have kp : ∀ b o, s1.heap.get? b = some o → h₁.get? b = some o := fun b o e => hsb.extBut b o (Nat.ne_of_lt (Heap.lt_size e)) (Heap.get?_push_of_some _ e)
    have J : Inv (lamCx X (X.A.deeper (envOfC qg sg s.heap.objs.size g cdg)) (envOfC qg sg s.heap.objs.size g cdg :: X.stack) s1 HZ E scope f c') [] σ HZ { s1 with heap := h₁, toks := s1.toks + ([] : List (Str × Value)).length } :=
      lam_start2 I L I1.env0 hr.hd un hns kp
    refine PySem.W.kla_codeExpr (wpAny_mono ((hbody _ _ s1 HZ (hr.deeper _)).run [] _ _ HZ Q J ht) (fun v s' hq => ?_) fun e s' hq => hq)
    obtain ⟨w', H', J', rv, q⟩ := hq
    exact ⟨w', H', J'.os, J'.bare, J'.base, J'.hok, rv, q⟩
  refine wpAny_call (codeAny_mono rc fun r s' hq => ?_)
  cases r with
  | error e => exact tk e s' (XE.of_call I1 (fun cls d H' h => hW cls d H' h) hq)
  | ok fl =>
    cases fl with
    | ret u => exact I1.after hq
    | next => exact False.elim hq
    | brk => exact False.elim hq
    | cont => exact False.elim hq
end
/-- the def that calls what it got: a calls it -/
def GivesTo3 (X : Cx) (Ng : List Str) (x : Str) (sg : Scope) (g : Addr) (cdg : Value) (bg : List Stmt) (a : Str) (q : Str) (TT : (XK → Hp → VK → Prop) → Hp → VK → Prop) : Prop :=
  ∀ (f c' : Addr) (s : Shared) (H : Hp) (Q : VK) (tl : XK → Hp → VK → Prop),
    (∀ (W : WX) (pn : List (Addr × Obj)) (xe : Value → Shared → Prop) (E : XK) (p1 p2 : Pos), Takes ((cxOf C8.CX0 X.prog X.w X.K X.mg X.base Ng x sg g cdg X.A X.stack s H C8.E0).tr pn xe) W →
      PE ((cxOf C8.CX0 X.prog X.w X.K X.mg X.base Ng x sg g cdg X.A X.stack s H C8.E0).tr pn xe) (.Call (.Name a p1) [] [] p2) (fun σZ HZ Q => σZ[0]? = some (some (.ref f)) ∧ HZ c' = some (CodeO c' q) ∧ (∀ cls d H', E cls d H' → W cls d σZ H') ∧ tl E HZ Q)) →
    H c' = some (CodeO c' q) → TT tl H Q →
    ∃ t, PSs (cxOf C8.CX0 X.prog X.w X.K X.mg X.base Ng x sg g cdg X.A X.stack s H C8.E0).nox bg t ∧ t { nx := fun _ H' => Q .non H', rt := Q } (L2.start Ng [.ref f]) H
def tLam3 (P : Addr) (q : Str) (TT : (XK → Hp → VK → Prop) → Hp → VK → Prop) (t : XK → TE) : TE := fun σ H Q => TabS H P q ∧ ∀ H1, TabUp P q H H1 → TabS H1 P q → TT (fun E H' Q' => t E σ H' Q') H1 Q
section
variable {X : Cx}
theorem pe_lamcall3 {TT : (XK → Hp → VK → Prop) → Hp → VK → Prop} {x a : Str} {g c P : Addr} {k : Nat} {pg : Arguments} {bg : List Stmt} {sg : Scope} {dV kV doc pm cdv ct oc : Value} {an od : Option Addr} {osl : Array (Option Value)} {Ng : List Str}
    {params : Arguments} {body : Expr} {scope : Scope} {t : XK → TE} {p lpos pos : Pos} (hg : Gl X x) (hm : X.mg x = some (.ref g)) (hk : PySem.W.keepIn X.K (.ref g) = true)
    (lk : X.K.lookup g = some ⟨oc, od, .func (PySem.W.fnOf x x pg bg sg dV kV doc pm an cdv ct), osl⟩) (hcg : PySem.W.codeIn X.K cdv x = true) (hb : L2.Binds X.K (PySem.W.fnOf x x pg bg sg dV kV doc pm an cdv ct) [a] []) (Sg : FnScope Ng [a] sg) (hNg : Ng[0]? = some a) (hva : Vis sg a)
    (hG : GivesTo3 X Ng x sg g cdv bg a (X.env.qual ++ "<lambda>") TT)
    (TB : TabB X.base X.mg c P) (hcode : X.env.code = .ref c) (hr : Room (k + 2) X.A) (L : LamS X.env.scope scope) (hdef : defaultsOf params X.env = ([], []))
    (hbind : ∀ (q : Str) (cl : List (Str × Addr)) (pm cv ctv : Value), bindArgs (PySem.W.kla_fn "<lambda>" q params body scope cl pm cv ctv) ⟨[], []⟩ = pure [])
    (hbody : ∀ (A : Around) (outer : List Env) (s : Shared) (H : Hp) (E : XK) (f c' : Addr), Room k (A.deeper (lamEnv X scope s.heap.objs.size f c')) → PE (lamCx X A outer s H E scope f c') body (t E))
    (hdb : (x == ("__debug__" : Str)) = false := by decide) (hd : (a == ("__debug__" : Str)) = false := by decide) (hcd : (a == ("__classdict__" : Str)) = false := by decide) :
    PE X (.Call (.Name x p) [.Lambda params body scope lpos] [] pos) (tLam3 P (X.env.qual ++ "<lambda>") TT t) := by
  refine ⟨fun pins s σ H Q I h => ?_⟩
  obtain ⟨hT, h⟩ := h
  refine wpAny_Call_Name_kw (ld_glob I hg hm ?_ hdb)
  refine PySem.W.callWith_K (h₀ := X.base) I.ok.mod.kin hk ?_ (by rfl) (by rfl)
  show wpAny _ _ (spliced ((false, eval (.Lambda params body scope lpos) X.env) :: backTo pos (starEach [] X.env))) _ _ s
  refine Calls.spliced_cons (lam_make3 I TB hcode hT hdef (L.has I.ok) fun f c' pm' ctv H1 s' I1 eN T1 hf hfn hfr hco => ?_)
  refine Calls.spliced_nil ⟨I1.kIn, ?_⟩
  have rc : codeAny (model X.prog X.w) X.A (.call (.ref g) ⟨[.ref f], []⟩) (CR C8.CX0 X.stack X.prog X.w H1 s' Q C8.E0) s' := by
    refine run_ofS (N := Ng) (ps := [a]) (us := [.ref f]) (vs := [.ref f]) lk hcg Sg hr I1.env0 (hb s' [.ref f] I1.kIn rfl) (.cons rfl .nil) rfl fun hr' => ?_
    obtain ⟨t', ht', hq'⟩ := hG f c' s' H1 Q (fun E H' Q' => t E σ H' Q') (fun W pn xe E p1 p2 tk => pe_act3 (i := 0) I1 L hf hfn hfr (hbind _ _ _ _ _) tk hr' (fun A outer s H hr2 => hbody A outer s H E f c' hr2) hNg hva hd hcd) hco (h H1 eN T1)
    exact ⟨t', ht'.nox, hq'⟩
  refine wpAny_call (codeAny_mono rc fun r s2 hq => ?_)
  cases r with
  | error e => exact (show False from hq).elim
  | ok fl =>
    cases fl with
    | ret u => exact I1.after hq
    | next => exact False.elim hq
    | brk => exact False.elim hq
    | cont => exact False.elim hq
end
end Nc
set_option maxHeartbeats 2000000
namespace Nc
open PySem PySem.Spec PyProof.Rows L2 LamX
def spP (K : PySem.W.Frag) (Cs : List Addr) (F : Addr → Addr → Fn) : Addr × Obj → Sp := fun p vs H Q E => ∃ (C dx : Addr) (fs : List Str) (ds : List D) (B : Fz) (g : Cells), C ∈ Cs ∧ Zc (.ref C) (some dx) p.2 ∧ (∃ ws, p.2.data = .fields ws) ∧ vs = [.ref p.1] ∧
  Cf K B H (vs.map some) ⟨vals [.xp p.1 dx fs ds], g⟩ ∧ spAt K vs B H [.xp p.1 dx fs ds] g Q E (F p.1 dx [.xp p.1 dx fs ds] g)
def okP (l : List (Option Slot)) : Rf → Rs D
  | .ok d g => .ok d ⟨l, g⟩
  | _ => .no
def isXp (a dx : Addr) : D → Bool
  | .xp a' dx' _ _ => decide (a' = a ∧ dx' = dx)
  | _ => false
theorem isXp_eq {a dx : Addr} {d : D} (h : isXp a dx d = true) : ∃ fs ds, d = .xp a dx fs ds := by
  cases d with
  | xp a' dx' fs ds =>
    have h : decide (a' = a ∧ dx' = dx) = true := h
    obtain ⟨rfl, rfl⟩ := of_decide_eq_true h
    exact ⟨fs, ds, rfl⟩
  | _ => exact absurd h (by simp [isXp])
def callPM (F : Addr → Addr → Fn) (a dx : Addr) (f : M D) : M D := f >>= fun d ρ => if isXp a dx d = true then okP ρ.l (F a dx [d] ρ.g) else .no
section
variable {X : Cx} {E : WX} {k : Nat} {f : Addr} {fd : FuncData} {ps : List Str} {x : Str} {q pos : Pos} {e : Expr} {p : Addr × Obj} {Cs : List Addr} {F : Addr → Addr → Fn} {C dx : Addr} {fa : M D}
theorem pd_callP (G : FnP X.prog X.w X.K X.mg X.base (L2.CX X.prog X.w) k f fd ps (spP X.K Cs F)) (hr : L2H.RoomH k X.A) (hp : p ∈ X.pn) (hC : C ∈ Cs) (hz : Zc (.ref C) (some dx) p.2) (hd : ∃ ws, p.2.data = .fields ws) (hg : Gl X x) (hm : X.mg x = some (.ref f)) (hk : PySem.W.keepIn X.K (.ref f) = true) (hb : Binds X.K fd ps [])
    (ha : PE X e (tD X.K E fa)) (hdb : (x == ("__debug__" : Str)) = false := by decide) (he : starEach [e] X.env = (false, eval e X.env) :: starEach [] X.env := by rfl) (hpl : (backTo pos (starEach [] X.env)).any (·.1) = false := by rfl) :
    PE X (.Call (.Name x q) [e] [] pos) (tD X.K E (callPM F p.1 dx fa)) := by
  refine pe_weak (pe_callP G hr hp hg hm hk hb (pa_cons ha pa_nil he) hdb he hpl) ?_
  rintro σ H Q ⟨B, ρ, c, h⟩
  refine ⟨B, ρ, c, h.seq.imp ?_⟩
  rintro d ρ' x B' H1 - - - ⟨d1, B1, ρ1, st1, rx, h1⟩
  have rx : Rep X.K B1 d1 x := rx
  split at h1
  · rename_i hx
    obtain ⟨fs, ds, rfl⟩ := isXp_eq hx
    have rx2 := rx
    simp only [Rep] at rx2
    obtain ⟨rfl, -⟩ := rx2
    refine ⟨C, dx, fs, ds, B1, ρ1.g, hC, hz, hd, rfl, st1.cf.plain (Reps.cons rx Reps.nil), ?_⟩
    cases ef : F p.1 dx [.xp p.1 dx fs ds] ρ1.g with
    | no =>
      rw [ef] at h1
      exact h1.elim
    | ok d g' =>
      rw [ef] at h1
      exact fun v B' H' st r => h1 v B' H' (call_back st1.cf st) r
    | new o g' =>
      rw [ef] at h1
      exact h1.elim
    | ex d g' =>
      rw [ef] at h1
      exact h1.elim
  · exact h1.elim
end
def h_suite (F : Addr → Addr → Fn) (a dx : Addr) : M Out := retS (b2 addD (tupM (consM (M.ret (.str "no")) (consM (k1 (fldXP a dx "code") (varK 1)) (M.ret [])))) (callPM F a dx (var 1)))
abbrev endsQ (Q : VK) : Ends := { nx := fun _ H' => Q .non H', rt := Q }
/-- what told makes of the lambda's reading -/
def TTold3 (K : PySem.W.Frag) (cs : List Value) (Cs : List Addr) (F : Addr → Addr → Fn) : (XK → Hp → VK → Prop) → Hp → VK → Prop := fun tl H Q =>
  ∀ f : Addr, tl (fun cls oc H' => ∃ C dx, cls = .ref C ∧ oc = some dx ∧ C ∈ Cs ∧ PySem.W.exmAny K cls cs = some true ∧ ∀ a, H' a = none → tS K (fun _ _ _ _ => False) (h_suite F a dx) (endsQ Q) [some (.ref f), some (.ref a)] H') H
    (fun v H' => ([.str "told", v] : List V).length ≤ sizeLine ∧ ∀ p, H' p = none → Q (.ref p) (upd H' p (.tup [.str "told", v])))
theorem suite_ps {X : Cx} {E : WX} {k : Nat} {ff : Addr} {fdf : FuncData} {Cs : List Addr} {F : Addr → Addr → Fn} {psf : List Str} {n fn : Str} {p : Addr × Obj} {C dx : Addr} {j2 k3' : Nat} {p7 p8 pd pe' pf pg ph pi pj : Pos} (hv : ∀ q : Pos, PE X (.Name n q) (tVar 1)) (hp : p ∈ X.pn) (hxf : XfC X.K C ∧ PySem.W.findIn X.K (.ref C) "code" = some none)
    (G : FnP X.prog X.w X.K X.mg X.base (L2.CX X.prog X.w) k ff fdf psf (spP X.K Cs F)) (hr : L2H.RoomH k X.A) (hC : C ∈ Cs) (hz : Zc (.ref C) (some dx) p.2) (hd : ∃ ws, p.2.data = .fields ws) (hg : Gl X fn) (hdf : (fn == ("__debug__" : Str)) = false) (hm : X.mg fn = some (.ref ff)) (hk : PySem.W.keepIn X.K (.ref ff) = true) (hb : Binds X.K fdf psf []) :
    PSs X [.Return (some (.BinOp (.Tuple [.Constant (.str "no") j2 pd, .Attribute (.Name n pe') "code" pf] k3' pg) .Add (.Call (.Name fn ph) [.Name n pi] [] pj) p7)) p8] (tS X.K E (h_suite F p.1 dx)) :=
  sd_one (sd_ret (pd_add (pd_tup (pl_cons pd_str (pl_cons (pk_fldP hxf.1 hxf.2 hp hz hd (pk_var 1 (hv pe'))) pl_nil))) (pd_callP G hr hp hC hz hd hg hm hk hb (pd_var 1 (hv pi)) hdf)))
section
variable {X : Cx} {k : Nat} {ff : Addr} {fdf : FuncData} {Cs : List Addr} {F : Addr → Addr → Fn}
theorem told_gives3 {Ng : List Str} {x a q n x1 x2 x3 fn : Str} {c1 c2 c3 : Value} {sg : Scope} {g : Addr} {cdg : Value} {j1 j2 k1' k2' k3' : Nat} {p1 p2 p3 p4 p5 p6 p7 p8 p9 pa pb pc pd pe' pf pg ph pi pj pk : Pos} {psf : List Str}
    (hNg : Ng = [a, n]) (hne : a ≠ n) (hca : Vis sg a) (hln : sg.names.lookup n = some .local) (h1 : sg.names.lookup x1 = some .globalImplicit ∧ (x1 == ("__debug__" : Str)) = false ∧ X.mg x1 = some c1) (h2 : sg.names.lookup x2 = some .globalImplicit ∧ (x2 == ("__debug__" : Str)) = false ∧ X.mg x2 = some c2) (h3 : sg.names.lookup x3 = some .globalImplicit ∧ (x3 == ("__debug__" : Str)) = false ∧ X.mg x3 = some c3)
    (hxf : ∀ C ∈ Cs, XfC X.K C ∧ PySem.W.findIn X.K (.ref C) "code" = some none)
    (G : FnP X.prog X.w X.K X.mg X.base (L2.CX X.prog X.w) k ff fdf psf (spP X.K Cs F)) (hr : L2H.RoomH (k + 1) X.A) (hfn : sg.names.lookup fn = some .globalImplicit ∧ (fn == ("__debug__" : Str)) = false ∧ X.mg fn = some (.ref ff)) (hkf : PySem.W.keepIn X.K (.ref ff) = true) (hbf : Binds X.K fdf psf []) (hdn : (n == ("__debug__" : Str)) = false) (hcn : (n == ("__classdict__" : Str)) = false) :
    GivesTo3 X Ng x sg g cdg [.Try [.Return (some (.Tuple [.Constant (.str "told") j1 pa, .Call (.Name a p1) [] [] p2] k1' pb)) p3] [.ExceptHandler (some (.Tuple [.Name x1 p4, .Name x2 p5, .Name x3 p6] k2' pc)) (some n)
      [.Return (some (.BinOp (.Tuple [.Constant (.str "no") j2 pd, .Attribute (.Name n pe') "code" pf] k3' pg) .Add (.Call (.Name fn ph) [.Name n pi] [] pj) p7)) p8] p9] [] [] pk] a q (TTold3 X.K [c1, c2, c3] Cs F) := by
  intro f c' s H Q tl act hc h
  subst hNg
  refine ⟨_, pss_one (ps_try_tup (X := (cxOf C8.CX0 X.prog X.w X.K X.mg X.base [a, n] x sg g cdg X.A X.stack s H C8.E0).nox) (i := 1) (c1 := c1) (c2 := c2) (c3 := c3)
      (tb := fun W D σ H => σ = [some (.ref f), none] ∧ ∃ Ech : XK, (∀ cls d H', Ech cls d H' → W cls d σ H') ∧ H c' = some (CodeO c' q) ∧ tl Ech H (fun v H' => ([.str "told", v] : List V).length ≤ sizeLine ∧ ∀ p, H' p = none → D.rt (.ref p) (upd H' p (.tup [.str "told", v]))))
      (ts := fun a cls d D σ H => ∃ C dx, cls = .ref C ∧ d = some dx ∧ C ∈ Cs ∧ tS X.K (fun _ _ _ _ => False) (h_suite F a dx) D σ H)
      rfl rfl (show ([a, n] : List Str).Nodup by simp [hne]) rfl hln ⟨h1.1, h1.2.1, .inl h1.2.2⟩ ⟨h2.1, h2.2.1, .inl h2.2.2⟩ ⟨h3.1, h3.2.1, .inl h3.2.2⟩ LamX.takes0 (fun W pn xe tk _ => ?_) (fun ad oe cls d pn hz hd => ?_)), ?_⟩
  · refine ⟨fun pins s' σ H' D I h' => ?_⟩
    obtain ⟨hσ, Ech, hW, h2, h3⟩ := h'
    have hp := act W pn xe Ech p1 p2 tk
    have hq := pss_one (ps_ret (pos := p3) (pe_tup (x1 := k1') (pos := pb) (pa_cons (pe_str (x := "told") (j := j1) (pos := pa)) (pa_cons hp pa_nil))))
    exact hq.run pins s' σ H' D I ⟨by rw [hσ]; rfl, h2, hW, h3⟩
  · refine ⟨fun pins s' σ H' D I h' => ?_⟩
    obtain ⟨C, dx, rfl, rfl, hC, h'⟩ := h'
    have hv : ∀ (p : Pos), PE ((cxOf C8.CX0 X.prog X.w X.K X.mg X.base [a, n] x sg g cdg X.A X.stack s H C8.E0).nox.suite ad ((ad, oe) :: pn)) (.Name n p) (tVar 1) := fun p => pe_var (i := 1) rfl (.inl hln) hdn hcn
    have hm : ((ad, oe) : Addr × Obj) ∈ ((cxOf C8.CX0 X.prog X.w X.K X.mg X.base [a, n] x sg g cdg X.A X.stack s H C8.E0).nox.suite ad ((ad, oe) :: pn)).pn := List.mem_cons_self
    have r2 := hr.deeper (envOfC x sg s.heap.objs.size g cdg)
    have hps := suite_ps (X := (cxOf C8.CX0 X.prog X.w X.K X.mg X.base [a, n] x sg g cdg X.A X.stack s H C8.E0).nox.suite ad ((ad, oe) :: pn)) (E := fun _ _ _ _ => False) (p := (ad, oe)) (j2 := j2) (k3' := k3') (p7 := p7) (p8 := p8) (pd := pd) (pe' := pe') (pf := pf) (pg := pg) (ph := ph) (pi := pi) (pj := pj) hv hm (hxf C hC) G ⟨r2.dp, r2.un⟩ hC hz hd hfn.1 hfn.2.1 hfn.2.2 hkf hbf
    exact hps.run pins s' σ H' D I h'
  · refine ⟨rfl, fun cls oc H' => ∃ C dx, cls = .ref C ∧ oc = some dx ∧ C ∈ Cs ∧ PySem.W.exmAny X.K cls [c1, c2, c3] = some true ∧ ∀ a, H' a = none → tS X.K (fun _ _ _ _ => False) (h_suite F a dx) (endsQ Q) [some (.ref f), some (.ref a)] H', fun cls d H' hw => ?_, hc, h f⟩
    obtain ⟨C, dx, rfl, rfl, hC, hm, hall⟩ := hw
    exact ⟨true, hm, fun _ a ha => ⟨C, dx, rfl, rfl, hC, hall a ha⟩, fun z => by cases z⟩
end
end Nc
set_option maxHeartbeats 2000000
namespace Nc
open PySem PySem.Spec PyProof.Rows L2 LamX
def noOwn (l : List (Option Slot)) : Bool := l.all fun s => match s with
  | some (.own _) => false
  | _ => true
theorem noOwn_at {l : List (Option Slot)} (h : noOwn l = true) {i : Nat} {o : O} (e : l[i]? = some (some (.own o))) : False := by
  have := List.all_eq_true.mp h _ (List.mem_of_getElem? e)
  cases this
/-- the suite tells it -/
def Tells (F : Addr → Addr → Fn) (e : Xn) : Prop := ∀ (f a dx : Addr) (g : Cells), h_suite F a dx ⟨[some (.val (.adr f)), some (.val (.xp a dx e.fs e.ds))], g⟩ = .ok (.rt (.tup (.str "no" :: e.ds))) ⟨[some (.val (.adr f)), some (.val (.xp a dx e.fs e.ds))], g⟩
noncomputable def tellR (Cs : List Addr) (F : Addr → Addr → Fn) (l : List (Option Slot)) : Rs D → Rs D
  | .ok d ρ => .ok (.tup [.str "told", d]) ρ
  | .ex e ρ => by classical exact if e.C ∈ Cs ∧ e.fs ≠ [] ∧ Tells F e ∧ noOwn l = true then .ok (.tup (.str "no" :: e.ds)) ⟨l, ρ.g⟩ else .no
  | .no => .no
noncomputable def tellM (n : Nat) (P : Addr) (q : Str) (Cs : List Addr) (F : Addr → Addr → Fn) (f : M D) : M D := fun ρ => match ρ.g[n]? with
  | some (.tbl n' P' q') => if n' = n ∧ P' = P ∧ q' = q then tellR Cs F ρ.l (f ρ) else .no
  | _ => .no
theorem tellM_at {n : Nat} {P : Addr} {q : Str} {Cs : List Addr} {F : Addr → Addr → Fn} {f : M D} {ρ : Rho} : tellM n P q Cs F f ρ = .no ∨ (ρ.g[n]? = some (.tbl n P q) ∧ tellM n P q Cs F f ρ = tellR Cs F ρ.l (f ρ)) := by
  unfold tellM
  split
  · rename_i n' P' q' e
    split
    · rename_i h
      obtain ⟨rfl, rfl, rfl⟩ := h
      exact .inr ⟨e, rfl⟩
    · exact .inl rfl
  · exact .inl rfl
section
variable {K : PySem.W.Frag} {σ : L2.St} {B : Fz} {H H1 : Hp} {ρ : Rho} {n : Nat} {P : Addr} {q : Str}
/-- the table's cell -/
theorem tbl_at (c : Cf K B H σ ρ) (hg : ρ.g[n]? = some (.tbl n P q)) : B.π n = some P ∧ ∃ ps : Array Value, H P = some (.tbl ps) ∧ TriplesOk ps.toList ∧ ∀ (pos : Pos) (cv : Value), codeAmong pos ps.toList = some cv → ∃ c, cv = .ref c ∧ B c = some (CodeO c q) := by
  obtain ⟨a, u, hπ, hB, hH, h1, ps, rfl, ht, hc⟩ := c.cl.at_ n _ hg
  have h1 : B.π n = some P := h1
  have e : a = P := by
    rw [hπ] at h1
    exact Option.some.inj h1
  subst e
  exact ⟨hπ, ps, hH, ht, hc⟩
theorem tabS_of (c : Cf K B H σ ρ) (hg : ρ.g[n]? = some (.tbl n P q)) : TabS H P q := by
  obtain ⟨_, ps, h1, h2, h3⟩ := tbl_at c hg
  refine ⟨ps, h1, h2, fun pos cv hc => ?_⟩
  obtain ⟨c0, e, hb⟩ := h3 pos cv hc
  exact ⟨c0, e, c.bh _ _ hb⟩
/-- a lambda's code is written into it -/
theorem step_tab (c : Cf K B H σ ρ) (hg : ρ.g[n]? = some (.tbl n P q)) (up : TabUp P q H H1) : ∃ B1, Step K σ B H ρ σ B1 H1 ρ := by
  rcases up with rfl | ⟨c', ps, pos, hP, hc, rfl⟩
  · exact ⟨B, Step.refl c⟩
  · obtain ⟨hπ, ps0, h1, h2, h3⟩ := tbl_at c hg
    rw [hP] at h1
    cases h1
    have nPc : P ≠ c' := ne_of_none hP hc
    have s1 := c.laid hc (CodeO c' q)
    have hT : RepO K (Fz.upd B c' (CodeO c' q)) (.tbl n P q) (.tbl (ps ++ #[rawInt pos.line, rawInt pos.col, .ref c'])) := by
      have eL : (ps ++ #[rawInt pos.line, rawInt pos.col, .ref c']).toList = ps.toList ++ [rawInt pos.line, rawInt pos.col, .ref c'] := by simp
      refine ⟨hπ, _, rfl, by rw [eL]; exact PySem.TriplesOk_snoc _ _ _ _ h2, fun p' cv hcv => ?_⟩
      rw [eL] at hcv
      rcases among_app _ h2 hcv with z | z
      · obtain ⟨c0, e1, e2⟩ := h3 p' cv z
        exact ⟨c0, e1, s1.bb.h _ _ e2⟩
      · exact ⟨c', z, Fz.upd_same⟩
    have hl : n < ρ.g.length := (List.getElem?_eq_some_iff.mp hg).1
    have hr : getR ρ (.c n) = some (.tbl n P q) := hg
    have s2 := Cf.putR (H0 := H) s1.cf (r := .c n) (o := .tbl n P q) (o' := .tbl n P q) (p := P) (show Rep K (Fz.upd B c' (CodeO c' q)) (.ptr n) (.ref P) by simp only [Rep]; exact ⟨P, rfl, hπ⟩) hr hT
    have e1 : setR ρ (.c n) (.tbl n P q) = ρ := by
      show Rho.mk ρ.l (ρ.g.set n (.tbl n P q)) = ρ
      have : ρ.g.set n (.tbl n P q) = ρ.g := by
        apply List.ext_getElem?
        intro i
        by_cases hi : n = i
        · subst hi
          rw [List.getElem?_set_self hl, hg]
        · rw [List.getElem?_set_ne hi]
      rw [this]
    have e2 : upd (upd H c' (CodeO c' q)) P (.tbl (ps ++ #[rawInt pos.line, rawInt pos.col, .ref c'])) = upd (upd H P (.tbl (ps ++ #[rawInt pos.line, rawInt pos.col, .ref c']))) c' (CodeO c' q) := by
      funext b
      by_cases hb : b = P
      · subst hb
        rw [upd_same, upd_ne nPc, upd_same]
      · rw [upd_ne hb]
        by_cases hb2 : b = c'
        · subst hb2
          rw [upd_same, upd_same]
        · rw [upd_ne hb2, upd_ne hb2, upd_ne hb]
    rw [e1, e2] at s2
    exact ⟨_, s1.trans s2⟩
/-- back from the suite, the maker's names as they were -/
theorem step_back (c : Cf K B H σ ρ) {σ' : L2.St} {B' : Fz} {H' : Hp} {ρ' : Rho} (st : Step K σ B H ρ σ' B' H' ρ') (hno : noOwn ρ.l = true) : Step K σ B H ρ σ B' H' ⟨ρ.l, ρ'.g⟩ := by
  have own : ∀ i p, OwnAt σ B' ⟨ρ.l, ρ'.g⟩ i p → OwnAt σ' B' ρ' i p ∧ ∃ m, i = .c m := fun i p z => by
    cases i with
    | s k =>
      obtain ⟨⟨o, e⟩, _⟩ := z
      exact (noOwn_at hno e).elim
    | c m => exact ⟨z, m, rfl⟩
  refine ⟨⟨st.cf.bh, c.len, fun i s e => ?_, fun i j p h1 h2 => st.cf.sep i j p (own i p h1).1 (own j p h2).1, st.cf.cl⟩, st.bb, st.keep, st.there, st.new, fun b ⟨i, z⟩ => st.own b ⟨i, (own i b z).1⟩⟩
  have q := c.at_ i s e
  cases s with
  | none => trivial
  | some s =>
    cases s with
    | val d =>
      obtain ⟨x, h1, h2⟩ := q
      exact ⟨x, h1, h2.mono st.bb⟩
    | own o => exact (noOwn_at hno e).elim
end
section
variable {X : Cx} {E : WX} {n : Nat} {P c : Addr} {q : Str} {cs : List Value} {Cs : List Addr} {F : Addr → Addr → Fn} {fm : M D}
/-- the reading of told -/
theorem told_read (hEx : ∀ C ∈ Cs, PySem.W.exmAny X.K (.ref C) cs = some true) : ∀ σ H Q, tD X.K E (tellM n P q Cs F fm) σ H Q → tLam3 P q (TTold3 X.K cs Cs F) (fun E' => tD X.K (fun cls d _ H' => E' cls d H') fm) σ H Q := by
  rintro σ H Q ⟨B, ρ, c, h⟩
  rcases tellM_at (n := n) (P := P) (q := q) (Cs := Cs) (F := F) (f := fm) (ρ := ρ) with e | ⟨hg, e⟩
  · rw [e] at h
    exact h.elim
  · rw [e] at h
    refine ⟨tabS_of c hg, fun H1 up T1 f => ?_⟩
    obtain ⟨B1, st0⟩ := step_tab c hg up
    refine ⟨B1, ρ, st0.cf, ?_⟩
    cases ef : fm ρ with
    | no =>
      rw [ef] at h
      exact h.elim
    | ok d ρ' =>
      rw [ef] at h
      intro x B' H' st r
      have r : Rep X.K B' d x := r
      refine ⟨by show 2 ≤ sizeLine; decide, fun p hp => ?_⟩
      have s3 := (st0.trans st).cf.laid hp (.tup [.str "told", x])
      refine h (.ref p) _ _ ((st0.trans st).trans s3) ?_
      show Rep X.K _ (.tup [.str "told", d]) (.ref p)
      simp only [Rep]
      exact ⟨p, _, rfl, Fz.upd_same, Reps.cons (by simp only [Rep]) (Reps.cons (r.mono s3.bb) Reps.nil)⟩
    | ex e ρ' =>
      rw [ef] at h
      simp only [tellR] at h
      split at h
      · rename_i hc
        obtain ⟨hC, hfs, hT, hno⟩ := hc
        intro oc σ' B' H' st rx
        rcases rx with rx | ⟨dx, xs, rfl, hd, hlen, rr⟩
        · exact absurd rx hfs
        refine ⟨e.C, dx, rfl, rfl, hC, hEx _ hC, fun a ha => ?_⟩
        have sLb := step_back c (st0.trans st) hno
        have rv : Reps X.K B' [.adr f, .xp a dx e.fs e.ds] [.ref f, .ref a] := Reps.cons (by simp only [Rep]) (Reps.cons (by simp only [Rep]; exact ⟨trivial, xs, .inr hd, hlen, rr⟩) Reps.nil)
        have cP := st.cf.plain rv
        refine ⟨B', ⟨vals [.adr f, .xp a dx e.fs e.ds], ρ'.g⟩, cP, ?_⟩
        have hh := hT f a dx ρ'.g
        show AtS X.K _ _ B' H' _ _ (h_suite F a dx ⟨[some (.val (.adr f)), some (.val (.xp a dx e.fs e.ds))], ρ'.g⟩)
        rw [hh]
        intro v σ2 B2 H2 st2 r2
        have st3 := Step.finish (N := ["", ""]) cP st2
        exact h v _ _ (sLb.trans (call_back sLb.cf st3)) r2
      · exact h.elim
end
end Nc
set_option maxHeartbeats 2000000
namespace Nc
open PySem PySem.Spec PyProof.Rows L2 LamX
/-- what is told of the def that tells -/
structure Told (K : PySem.W.Frag) (mg : Str → Option Value) (x a : Str) (g : Addr) (pg : Arguments) (bg : List Stmt) (sg : Scope) (cdv : Value) (Ng : List Str) : Prop where
  ex : ∃ (oc dV kV doc pm ct : Value) (an od : Option Addr) (osl : Array (Option Value)), K.lookup g = some ⟨oc, od, .func (PySem.W.fnOf x x pg bg sg dV kV doc pm an cdv ct), osl⟩ ∧ L2.Binds K (PySem.W.fnOf x x pg bg sg dV kV doc pm an cdv ct) [a] []
  code : PySem.W.codeIn K cdv x = true
  mg : mg x = some (.ref g)
  kp : PySem.W.keepIn K (.ref g) = true
section
variable {X : Cx} {E : WX} {x a : Str} {g c P : Addr} {k n : Nat} {pg : Arguments} {bg : List Stmt} {sg : Scope} {cdv : Value} {Ng : List Str} {params : Arguments} {body : Expr} {scope : Scope} {p lpos pos : Pos} {cs : List Value} {Cs : List Addr} {F : Addr → Addr → Fn} {fm : M D}
theorem pd_told (T : Told X.K X.mg x a g pg bg sg cdv Ng) (hg : Gl X x) (Sg : FnScope Ng [a] sg) (hNg : Ng[0]? = some a) (hva : Vis sg a) (hG : GivesTo3 X Ng x sg g cdv bg a (X.env.qual ++ "<lambda>") (TTold3 X.K cs Cs F)) (hEx : ∀ C ∈ Cs, PySem.W.exmAny X.K (.ref C) cs = some true)
    (TB : TabB X.base X.mg c P) (hcode : X.env.code = .ref c) (hr : Room (k + 2) X.A) (L : LamS X.env.scope scope) (hdef : defaultsOf params X.env = ([], []))
    (hbind : ∀ (q : Str) (cl : List (Str × Addr)) (pm cv ctv : Value), bindArgs (PySem.W.kla_fn "<lambda>" q params body scope cl pm cv ctv) ⟨[], []⟩ = pure [])
    (hbody : ∀ (A : Around) (outer : List Env) (s : Shared) (H : Hp) (E : XK) (f c' : Addr), Room k (A.deeper (lamEnv X scope s.heap.objs.size f c')) → PE (lamCx X A outer s H E scope f c') body (tD X.K (fun cls d _ H' => E cls d H') fm))
    (hdb : (x == ("__debug__" : Str)) = false := by decide) (hd : (a == ("__debug__" : Str)) = false := by decide) (hcd : (a == ("__classdict__" : Str)) = false := by decide) :
    PE X (.Call (.Name x p) [.Lambda params body scope lpos] [] pos) (tD X.K E (tellM n P (X.env.qual ++ "<lambda>") Cs F fm)) := by
  obtain ⟨oc, dV, kV, doc, pm, ct, an, od, osl, lk, hb⟩ := T.ex
  exact pe_weak (pe_lamcall3 (TT := TTold3 X.K cs Cs F) (t := fun E' => tD X.K (fun cls d _ H' => E' cls d H') fm) hg T.mg T.kp lk T.code hb Sg hNg hva hG TB hcode hr L hdef hbind hbody hdb hd hcd) (told_read hEx)
end
section
variable {n : Nat} {P : Addr} {q : Str} {Cs : List Addr} {F : Addr → Addr → Fn} {f : M D} {l : List (Option Slot)} {g g' : Cells} {d : D} {ρ : Rho} {e : Xn}
theorem tellM_r (hg : g[n]? = some (.tbl n P q)) : tellM n P q Cs F f ⟨l, g⟩ = tellR Cs F l (f ⟨l, g⟩) := by
  rcases tellM_at (n := n) (P := P) (q := q) (Cs := Cs) (F := F) (f := f) (ρ := ⟨l, g⟩) with e | ⟨_, e⟩
  · unfold tellM
    simp only [hg, and_self, if_true]
  · exact e
theorem tellR_ok : tellR Cs F l (.ok d ρ) = .ok (.tup [.str "told", d]) ρ := Eq.trans (Eq.refl _) (Eq.refl _)
theorem tellR_ex (hC : e.C ∈ Cs) (hf : e.fs ≠ []) (hT : Tells F e) (hno : noOwn l = true) : tellR Cs F l (.ex e ρ) = .ok (.tup (.str "no" :: e.ds)) ⟨l, ρ.g⟩ := by
  simp only [tellR]
  rw [if_pos ⟨hC, hf, hT, hno⟩]
end
end Nc
namespace Nc
open PySem PySem.Spec PyProof.Rows L2
section
variable {X : Cx} {E : WX} {C g p : Addr} {mc : Value} {m : Str} {o e : Expr} {es : List Expr} {k : Nat} {fd : FuncData} {ps : List Str} {F : Fn} {as : M (List D)} {pos apos : Pos} {pl : Sem Bool} {x : Str} {q : Pos}
/-- C.m(..): the class is handed over as an address -/
def cmethM (C : Addr) (F : Fn) (as : M (List D)) : M D := as >>= fun ds => callF F (.adr C :: ds)
end
section
variable {X : Cx} {E : WX} {C f : Addr} {e : Expr} {es : List Expr} {as : M (List D)} {F : Fn} {k i : Nat} {fd : FuncData} {ps : List Str} {x : Str} {p pos : Pos}
noncomputable def mkVN (i : Nat) (C : Addr) (F : Fn) (as : M (List D)) : M O := fun ρ => match ρ[i]? with
  | some (some (.val (.adr a))) => if a = C then mkN C F as ρ else .no
  | _ => .no
end
end Nc
namespace Nc
open PySem PySem.Spec PyProof.Rows L2 LamX
section
variable {P : Program} {w : World} {K : PySem.W.Frag} {mg : Str → Option Value} {base : Heap}
/-- as Fun.okX, the code object told -/
theorem okX2 {x qual : Str} {st : Stmt} {f : Addr} {fd : FuncData} {N ps : List Str} {k : Nat} {sp : Sp} (F : Fun K x qual st f fd) (S : FnScope N ps (defScope st)) (len : ∀ vs H Q E, sp vs H Q E → vs.length = ps.length)
    (hbody : ∀ (cdv : Value) (A : Around) (outer : List Env) (s : Shared) (H : Hp) (vs : List V) (Q : VK) (E : XK), fd.code = cdv → Room k (A.deeper (envOfC qual (defScope st) s.heap.objs.size f cdv)) → sp vs H Q E →
      ∃ t, PSs (cxOf (L2.CX P w) P w K mg base N qual (defScope st) f cdv A outer s H E) (defBody st) t ∧ t { nx := fun _ H' => Q .non H', rt := Q } (L2.start N vs) H) : FnOk P w K mg base (L2.CX P w) (k + 1) f fd ps sp := by
  obtain ⟨oc, od, kV, doc, pm, an, cdv, ct, osl, rfl, lk, hcd⟩ := F.ex
  exact fn_of lk hcd S len fun A outer s H vs Q E hr hsp => hbody cdv A outer s H vs Q E rfl hr hsp
theorem told_mk {x a : Str} {st : Stmt} {g : Addr} {fd : FuncData} {Ng : List Str} (F : Fun K x x st g fd) (hm : mg x = some (.ref g)) (hb : L2.Binds K fd [a] []) : ∃ cdv, Told K mg x a g (defArgs st) (defBody st) (defScope st) cdv Ng := by
  have kp := F.kp
  obtain ⟨oc, od, kV, doc, pm, an, cdv, ct, osl, rfl, lk, hcd⟩ := F.ex
  exact ⟨cdv, ⟨⟨_, _, _, _, _, _, _, _, _, lk, hb⟩, hcd, hm, kp⟩⟩
end
end Nc
namespace Nc
open PySem PySem.Spec PyProof.Rows L2
end Nc
set_option maxHeartbeats 2000000
namespace PySem.W
open PySem PySem.Spec PySem.Calls PyProof.Rows
end PySem.W
namespace Nc
open PySem PySem.Spec PyProof.Rows L2
end Nc
namespace Nc
open PySem PySem.Spec PyProof.Rows L2
def mkxM (C : Addr) (n : Nat) (f : Option Str) (code : Str) (as : M (List D)) : M D := as >>= fun ds => fun ρ => if ds.length = arN f then .ok (.xn C n (errN f) (.str code :: ds)) ρ else .no
end Nc
namespace Nc
open PySem PySem.Spec PyProof.Rows L2
/-- what isinstance answers for an error of each class -/
def isxD (T : Nat → Addr) (yes : Nat → Option Bool) : D → Option D
  | .xn C n _ _ => if T n = C then (yes n).map .bl else none
  | _ => none
end Nc
namespace Nc
open PySem PySem.Spec PyProof.Rows L2
end Nc
set_option maxHeartbeats 2000000
namespace PySem
namespace NcE
open PySem.W PySem.Calls PyProof.Rows HandSPX OEX
/-- own classes, then the base's mro -/
def OwnT (tail l : List Value) : Prop := ∃ cs : List Addr, l = cs.map Value.ref ++ tail
theorem OwnT.cons {tail l : List Value} (h : OwnT tail l) (c : Addr) : OwnT tail (.ref c :: l) := by
  obtain ⟨cs, rfl⟩ := h
  exact ⟨c :: cs, rfl⟩
end NcE
end PySem
namespace PySem
end PySem
set_option maxHeartbeats 2000000
namespace Nc
open PySem PySem.Spec PyProof.Rows L2 PySem.Calls
end Nc
set_option maxHeartbeats 2000000
namespace Nc
open PySem PySem.Spec PyProof.Rows L2
end Nc
namespace Nc
open PySem PySem.Spec PyProof.Rows L2
def csN (T : Nat → Addr) (ns : List Nat) : List Addr := ns.map T
/-- what is asked of each class -/
def excOneB (K : PySem.W.Frag) (C : Addr) : Bool := decide (PySem.W.findIn K (.ref C) "__getattribute__" = some (some (.builtin "BaseException.__getattribute__"))) && (decide (PySem.W.findIn K (.ref C) "__getattr__" = some none) && (decide (PySem.W.subIn K (.ref C) (.type "BaseException") = some true) && (PySem.W.hasDictIn K C &&
  (decide (PySem.W.findIn K (.ref C) "__class__" = some (some (.builtin "object.__class__"))) && (decide (PySem.W.mroIn K C (.type "object") = some true) && decide (PySem.W.subIn K (.ref C) (.ref C) = some true))))))
def excGB (K : PySem.W.Frag) : Bool := decide (PySem.W.specialIn K (.builtin "object.__class__") "__get__" = some (some (.builtin "getset_descriptor.__get__"))) && decide (PySem.W.takesIn K (.builtin "object.__class__") = some true)
def excAllB (K : PySem.W.Frag) (cs : List Addr) : Bool := excGB K && cs.all (excOneB K)
theorem excOne_ok {K : PySem.W.Frag} {C : Addr} (g : excGB K = true) (h : excOneB K C = true) : XfC K C ∧ ExcC K C ∧ PySem.W.subIn K (.ref C) (.ref C) = some true := by
  unfold excGB at g
  unfold excOneB at h
  simp only [Bool.and_eq_true, decide_eq_true_eq] at g h
  obtain ⟨h1, h2, h3, h4, h5, h6, h7⟩ := h
  exact ⟨⟨h1, h2, h3, h4⟩, ⟨h1, h2, h3, h4, h5, g.1, g.2, h6⟩, h7⟩
theorem excAll_ok {K : PySem.W.Frag} {cs : List Addr} (h : excAllB K cs = true) {C : Addr} (hC : C ∈ cs) : XfC K C ∧ ExcC K C ∧ PySem.W.subIn K (.ref C) (.ref C) = some true := by
  unfold excAllB at h
  rw [Bool.and_eq_true, List.all_eq_true] at h
  exact excOne_ok h.1 (h.2 C hC)
theorem mem_csN {T : Nat → Addr} {ns : List Nat} {n : Nat} (h : n ∈ ns) : T n ∈ csN T ns := List.mem_map.mpr ⟨n, h, rfl⟩
/-- the field f of the classes cs: no attribute of theirs has the name -/
def noFldB (K : PySem.W.Frag) (cs : List Addr) (f : Str) : Bool := cs.all fun C => decide (PySem.W.findIn K (.ref C) f = some none)
theorem xf_of {K : PySem.W.Frag} {T : Nat → Addr} {ns ms : List Nat} {f : Str} (ha : excAllB K (csN T ns) = true) (hs : ∀ m ∈ ms, m ∈ ns) (hf : noFldB K (csN T ms) f = true) : ∀ C ∈ csN T ms, XfC K C ∧ PySem.W.findIn K (.ref C) f = some none := fun C hC => by
  unfold noFldB at hf
  rw [List.all_eq_true] at hf
  obtain ⟨m, hm, rfl⟩ := List.mem_map.mp hC
  exact ⟨(excAll_ok ha (mem_csN (hs m hm))).1, of_decide_eq_true (hf _ hC)⟩
end Nc
namespace Nc
open PySem PySem.Spec PyProof.Rows L2 LamX
/-- each of the classes cs is caught by one of the classes ds -/
def exmAllB (K : PySem.W.Frag) (cs : List Addr) (ds : List Value) : Bool := cs.all fun C => decide (PySem.W.exmAny K (.ref C) ds = some true)
theorem exmAll_ok {K : PySem.W.Frag} {cs : List Addr} {ds : List Value} (h : exmAllB K cs ds = true) : ∀ C ∈ cs, PySem.W.exmAny K (.ref C) ds = some true := fun C hC => by
  unfold exmAllB at h
  rw [List.all_eq_true] at h
  exact of_decide_eq_true (h C hC)
theorem roomH_of {k : Nat} {A : Around} (hr : Room k A) : L2H.RoomH k A := ⟨hr.dp, hr.un⟩
theorem roomH_units {k : Nat} {A : Around} (hr : L2H.RoomH k A) : A.units + 64 < cLine := by have := hr.un; omega
theorem spP_len {K : PySem.W.Frag} {Cs : List Addr} {F : Addr → Addr → Fn} (p : Addr × Obj) (vs : List V) (H : Hp) (Q : VK) (E : XK) (h : spP K Cs F p vs H Q E) : vs.length = 1 := by
  obtain ⟨_, _, _, _, _, _, _, _, _, rfl, _⟩ := h
  rfl
end Nc
namespace Nc
open PySem
/-- asleep, and never to be woken -/
def muteG : GenState → GenState
  | .suspended _ l c p fs cl => .suspended (fun _ => .unsupported "") l c p fs cl
  | x => x
def IsSus : GenState → Prop
  | .suspended .. => True
  | _ => False
def Frs0 : GenState → Prop
  | .suspended _ _ _ _ fs _ => splitAtGen fs = none
  | _ => True
/-- G: the ones that are asleep; in b they are mute -/
def HushG (G : Nat → Option GenState) (a b : Array GenState) : Prop := a.size = b.size ∧
  ∀ i, (∃ X, G i = some X ∧ IsSus X ∧ a[i]? = some X ∧ b[i]? = some (muteG X)) ∨ (G i = none ∧ a[i]? = b[i]? ∧ ∀ x, b[i]? = some x → Frs0 x)
theorem HushG.put {G : Nat → Option GenState} {a b : Array GenState} (h : HushG G a b) {g : Nat} {x : GenState} (hg : G g = none) (hx : Frs0 x) : HushG G (a.setIfInBounds g x) (b.setIfInBounds g x) := by
  refine ⟨by simp [h.1], fun i => ?_⟩
  by_cases e : i = g
  · subst e
    refine .inr ⟨hg, ?_, fun y hy => ?_⟩
    · simp only [Array.getElem?_setIfInBounds_self]
      rw [h.1]
    · rw [Array.getElem?_setIfInBounds_self] at hy
      split at hy
      · cases hy; exact hx
      · cases hy
  · rw [Array.getElem?_setIfInBounds_ne (Ne.symm e), Array.getElem?_setIfInBounds_ne (Ne.symm e)]
    exact h.2 i
theorem HushG.push {G : Nat → Option GenState} {a b : Array GenState} (h : HushG G a b) {c : Code} : HushG G (a.push (.fresh c)) (b.push (.fresh c)) := by
  refine ⟨by simp [h.1], fun i => ?_⟩
  have hs := h.1
  rcases h.2 i with ⟨X, h1, h2, h3, h4⟩ | ⟨h1, h2, h3⟩
  · have la : i < a.size := (Array.getElem?_eq_some_iff.mp h3).1
    refine .inl ⟨X, h1, h2, ?_, ?_⟩
    · rw [Array.getElem?_push_lt la, ← Array.getElem?_eq_getElem la]; exact h3
    · have lb : i < b.size := by omega
      rw [Array.getElem?_push_lt lb, ← Array.getElem?_eq_getElem lb]; exact h4
  · refine .inr ⟨h1, ?_, fun x hx => ?_⟩
    · rw [Array.getElem?_push, Array.getElem?_push, hs, h2]
    · rw [Array.getElem?_push] at hx
      split at hx
      · cases hx; trivial
      · exact h3 x hx
def EFr : End → Prop
  | .ret _ => True
  | .susp _ _ _ _ _ _ fs => splitAtGen fs = none
theorem EFr.st {e : End} (h : EFr e) : Frs0 e.genState := by
  cases e with
  | ret => trivial
  | susp => exact h
end Nc
namespace Nc
open PySem
end Nc
namespace Nc
open PySem PyProof.Rows L2 GenW
theorem HushG.kept {G : Nat → Option GenState} {a b : Array GenState} (h : HushG G a b) {i : Nat} {X : GenState} (hG : G i = some X) : a[i]? = some X := by
  rcases h.2 i with ⟨Y, q1, q2, q3, q4⟩ | ⟨q1, q2, q3⟩
  · rw [hG] at q1; cases q1; exact q3
  · rw [hG] at q1; cases q1
theorem HushG.bare {G : Nat → Option GenState} {a b : Array GenState} (h : HushG G a b) (hb : AllBare b) : AllBare a := fun y hy => by
  obtain ⟨i, hi, e⟩ := Array.mem_iff_getElem.mp hy
  have ea : a[i]? = some y := by rw [Array.getElem?_eq_getElem hi, e]
  rcases h.2 i with ⟨X, q1, q2, q3, q4⟩ | ⟨q1, q2, q3⟩
  · rw [ea] at q3
    cases q3
    have := hb _ (Array.mem_of_getElem? q4)
    cases y <;> first | exact q2.elim | exact this
  · exact hb y (Array.mem_of_getElem? (q2.symm.trans ea))
end Nc
namespace Nc
open PySem PyProof.Rows L2 GenW
open Sem (wp)
/-- the stretch from t on ends as wanted -/
def Rn (M : Model) (A : Around) (Φ : End → Shared → Prop) (c : Code) (t : Sem PySem.Fin) (fs : List Frame) (s : Shared) : Prop :=
  ∀ Γ p, Γ.code = c → Γ.Woken A → ∃ e s', Runs M Γ p t fs s e s' ∧ Φ e s'
/-- the sleeper woken -/
def goesRn (M : Model) (A : Around) (Φ : End → Shared → Prop) (gs : GenState) (s : Shared) : Prop := match gs with
  | .fresh c => Rn M A Φ c (M.den c) [] s
  | .suspended k _ c _ fs _ => Rn M A Φ c (k (.send .none)) fs s
  | _ => False
end Nc
namespace Nc
open PySem PySem.Spec PyProof.Rows L2 GenW
def Fz.nil (B : Fz) : Fz := ⟨B.h, fun _ => none⟩
/-- b is an own object of a slot -/
def OwnS (σ : L2.St) (l : List (Option Slot)) (b : Addr) : Prop := ∃ i : Nat, (∃ o, l[i]? = some (some (.own o))) ∧ σ[i]? = some (some (.ref b))
/-- the heap without the addresses at P; with P's objects as they stand -/
def off (P : List Addr) (H : Hp) : Hp := fun b => if b ∈ P then none else H b
def onP (P : List Addr) (φ : Addr → Heap → Prop) (H : Hp) : Hp := fun b => if b ∈ P then some (.ext (φ b)) else H b
theorem onP_in {P : List Addr} {φ : Addr → Heap → Prop} {H : Hp} {b : Addr} (h : b ∈ P) : onP P φ H b = some (.ext (φ b)) := by unfold onP; rw [if_pos h]
section
variable {K : PySem.W.Frag} {σ σ' σs σg σg' : L2.St} {B B' Bs Bg' : Fz} {H H' Hs Hg' : Hp} {ρ ρ' ρs : Rho} {lg lg' : List (Option Slot)} {P : List Addr}
theorem OwnA.obj (c : Cf K B H σ ρ) {b : Addr} (h : OwnA σ B ρ b) : ∃ o u, H b = some u ∧ RepO K B o u := by
  obtain ⟨i, h⟩ := h
  cases i with
  | s i =>
    obtain ⟨⟨o, e⟩, f⟩ := h
    obtain ⟨p, u, h1, _, h3, h4, _⟩ := c.own e
    rw [f] at h1
    cases h1
    exact ⟨o, u, h3, h4⟩
  | c n =>
    obtain ⟨⟨o, e⟩, f⟩ := h
    obtain ⟨a, u, h1, _, h3, h4⟩ := c.cl.at_ n o e
    rw [f] at h1
    cases h1
    exact ⟨o, u, h3, h4⟩
/-- P's objects are held in the abstract heap -/
def Held (P : List Addr) (H : Hp) : Prop := ∀ b ∈ P, ∃ φ, H b = some (.ext φ)
theorem Held.of {P : List Addr} {φ : Addr → Heap → Prop} {H : Hp} : Held P (onP P φ H) := fun b hb => ⟨_, onP_in hb⟩
end
end Nc
namespace Nc
open PySem PySem.Spec PyProof.Rows L2 GenW
/-- a generator def's frame: where it is woken, its names -/
structure Gd where
  A : Around
  N : List Str
  qual : Str
  scope : Scope
  f : Addr
  cd : Value
  /-- where its names stand -/
  L : Addr
abbrev Gd.env (G : Gd) : Env := envOfC G.qual G.scope G.L G.f G.cd
/-- the frame's context, entered at the state s; an exception is not to be -/
def gcx (X : Cx) (G : Gd) (s : Shared) (H : Hp) : Cx where
  prog := X.prog
  w := X.w
  K := X.K
  mg := X.mg
  base := X.base
  A := G.A.deeper G.env
  N := G.N
  s_0 := s
  H_0 := H
  env := G.env
  outer := X.stack
  stack := G.env :: X.stack
  ex := []
  fn := fun _ => true
  calm := true
  pn := []
  xe := fun _ _ => False
/-- the private addresses of the generator at a -/
structure Priv (X : Cx) (G : Gd) (a : Addr) (Pv : List Addr) : Prop where
  loc : G.L ∈ Pv
  cell : ∀ x c, G.env.cells.lookup x = some c → c ∈ Pv
  gen : a ∈ Pv
  all : ∀ b ∈ Pv, b = G.L ∨ (∃ x, G.env.cells.lookup x = some b) ∨ b = a
  above : ∀ b ∈ Pv, G.L ≤ b
  cab : ∀ x c, G.env.cells.lookup x = some c → G.L ≤ c
  gne : a ≠ G.L
  ours : X.env.locals < G.L
  oursC : ∀ x c, X.env.cells.lookup x = some c → c < G.L
  hd : G.A.handled = none
  frames : G.A.frames = some X.stack
end Nc
namespace Nc
open PySem PySem.Spec PyProof.Rows L2 GenW
/-- what a part of a generator does, and what it hands out -/
abbrev Gn := M (Out × List D)
/-- where a stretch began -/
structure Wake where
  s : Shared
  ip : List (Addr × Obj)
  B : Fz
  H : Hp
  σ : L2.St
  l : List (Option Slot)
section
variable (X : Cx) (G : Gd)
/-- within a stretch -/
structure Mid (W : Wake) (σ : L2.St) (l : List (Option Slot)) (B : Fz) (H : Hp) (s : Shared) : Prop where
  inv : Inv (gcx X G W.s W.H) W.ip σ H s
  st : Step X.K W.σ W.B.nil W.H ⟨W.l, []⟩ σ B H ⟨l, []⟩
/-- how a stretch ends, L being what the generator is still to hand out -/
def Ends1 : List D → Wake → End → Shared → Prop
  | [], W, e, s' => ∃ r, e = .ret r ∧ (r = .ok (.ret .none) ∨ r = .ok .next) ∧ ∃ σ' l' B' H', Mid X G W σ' l' B' H' s'
  | d :: L, W, e, s' => ∃ v k lv c p fs x σ' l' B' H', e = .susp v false lv k c p fs ∧ e.quiet = true ∧ RelV x v ∧ Rep X.K B' d x ∧ Mid X G W σ' l' B' H' s' ∧
      ∀ (s1 : Shared) (ip : List (Addr × Obj)) (B : Fz) (H : Hp) (s2 : Shared), Inv (gcx X G s1 H) ip σ' H s2 → Cf X.K B.nil H σ' ⟨l', []⟩ → Rn (model X.prog X.w) G.A (Ends1 L ⟨s1, ip, B, H, σ', l'⟩) c (k (.send .none)) fs s2
/-- a sleeper that is still to hand out L -/
def Nap (L : List D) (σ : L2.St) (l : List (Option Slot)) (gs : GenState) : Prop :=
  ∀ (s1 : Shared) (ip : List (Addr × Obj)) (B : Fz) (H : Hp) (s2 : Shared), Inv (gcx X G s1 H) ip σ H s2 → Cf X.K B.nil H σ ⟨l, []⟩ → goesRn (model X.prog X.w) G.A (Ends1 X G L ⟨s1, ip, B, H, σ, l⟩) gs s2
end
end Nc
namespace Nc
open PySem PySem.Spec PyProof.Rows L2 GenW
structure Duo (K : PySem.W.Frag) (Pv : List Addr) (σs : L2.St) (Bs : Fz) (Hs : Hp) (ρs : Rho) (σ : L2.St) (B : Fz) (H : Hp) (ρ : Rho) (σg : L2.St) (lg : List (Option Slot)) : Prop where
  st : Step K σs Bs Hs ρs σ B H ρ
  cg : Cf K B.nil (off Pv H) σg ⟨lg, []⟩
  ap : ∀ b, OwnS σg lg b → ¬ OwnA σ B ρ b
  new : ∀ b, OwnS σg lg b → Hs b = none
  newP : ∀ b ∈ Pv, Hs b = none
/-- P's objects are pinned by the abstract heap -/
def Fixed (Pv : List Addr) (H : Hp) (s : Shared) : Prop := ∀ b ∈ Pv, ∃ φ, H b = some (.ext φ) ∧ ∀ h : Heap, φ h → h.get? b = s.heap.get? b
structure Zz (X : Cx) (G : Gd) (a : Addr) (g : Nat) (Pv : List Addr) (L : List D) (σg : L2.St) (lg : List (Option Slot)) (H : Hp) (s : Shared) : Prop where
  pv : Priv X G a Pv
  old : ∃ (s1 : Shared) (H0 : Hp) (ip : List (Addr × Obj)) (Hg : Hp) (s0 : Shared), Inv (gcx X G s1 H0) ip σg Hg s0 ∧ ∀ b ∈ Pv, s.heap.get? b = s0.heap.get? b
  gen : s.heap.IsGen a g
  fix : Fixed Pv H s
  st : ∃ gs, s.gens[g]? = some gs ∧ Nap X G L σg lg gs
end Nc
namespace Nc
open PySem PySem.Spec PyProof.Rows L2 GenW
end Nc
namespace Nc
open PySem PySem.Spec PyProof.Rows L2 GenW
mutual
def plainD : D → Bool
  | .tup ds => plainDs ds
  | .lst ds => plainDs ds
  | .dk _ ds => plainDs ds
  | .dt _ ds => plainDs ds
  | .dl _ ds => plainDs ds
  | .ob _ _ ds => plainDs ds
  | .xn _ _ _ ds => plainDs ds
  | .xp _ _ _ ds => plainDs ds
  | .ptr _ => false
  | .any _ => false
  | _ => true
def plainDs : List D → Bool
  | [] => true
  | d :: ds => plainD d && plainDs ds
end
section
variable {K : PySem.W.Frag} {B : Fz}
mutual
theorem Rep.nil : ∀ {d : D} {v : V}, plainD d = true → Rep K B d v → Rep K B.nil d v
  | .non, _, _, h => h
  | .bl _, _, _, h => h
  | .int _, _, _, h => h
  | .str _, _, _, h => h
  | .adr _, _, _, h => h
  | .ty _, _, _, h => h
  | .tup ds, v, p, h => by
    simp only [plainD] at p
    simp only [Rep] at h ⊢
    obtain ⟨a, xs, h1, h2, h3⟩ := h
    exact ⟨a, xs, h1, h2, Reps.nilB p h3⟩
  | .lst ds, v, p, h => by
    simp only [plainD] at p
    simp only [Rep] at h ⊢
    obtain ⟨a, xs, h1, h2, h3⟩ := h
    exact ⟨a, xs, h1, h2, Reps.nilB p h3⟩
  | .dk ks ds, v, p, h => by
    simp only [plainD] at p
    simp only [Rep] at h ⊢
    obtain ⟨a, xs, h1, h2, h3, h4⟩ := h
    exact ⟨a, xs, h1, h2, h3, Reps.nilB p h4⟩
  | .dt ks ds, v, p, h => by
    simp only [plainD] at p
    simp only [Rep] at h ⊢
    obtain ⟨a, xs, h1, h2, h3, h4⟩ := h
    exact ⟨a, xs, h1, h2, h3, Reps.nilB p h4⟩
  | .dl ks ds, v, p, h => by
    simp only [plainD] at p
    simp only [Rep] at h ⊢
    obtain ⟨a, o, xs, h1, h2, h3, h4⟩ := h
    exact ⟨a, o, xs, h1, h2, h3, Reps.nilB p h4⟩
  | .ob C fs ds, v, p, h => by
    simp only [plainD] at p
    simp only [Rep] at h ⊢
    obtain ⟨a, dx, xs, h1, h2, h3, h4⟩ := h
    exact ⟨a, dx, xs, h1, h2, h3, Reps.nilB p h4⟩
  | .xn C n fs ds, v, p, h => by
    simp only [plainD] at p
    simp only [Rep] at h ⊢
    obtain ⟨a, dx, o, xs, h1, h2, h6, h5, h3, h4⟩ := h
    exact ⟨a, dx, o, xs, h1, h2, h6, h5, h3, Reps.nilB p h4⟩
  | .xp a dx fs ds, v, p, h => by
    simp only [plainD] at p
    simp only [Rep] at h ⊢
    obtain ⟨h1, xs, h5, h3, h4⟩ := h
    exact ⟨h1, xs, h5, h3, Reps.nilB p h4⟩
  | .ptr n, v, p, _ => by simp only [plainD, Bool.false_eq_true] at p
  | .any n, v, p, _ => by simp only [plainD, Bool.false_eq_true] at p
theorem Reps.nilB : ∀ {ds : List D} {vs : List V}, plainDs ds = true → Reps K B ds vs → Reps K B.nil ds vs
  | [], _, _, h => by
    simp only [Reps] at h ⊢
    exact h
  | d :: ds, vs, p, h => by
    simp only [plainDs, Bool.and_eq_true] at p
    simp only [Reps] at h ⊢
    obtain ⟨x, xs, h1, h2, h3⟩ := h
    exact ⟨x, xs, h1, Rep.nil p.1 h2, Reps.nilB p.2 h3⟩
end
end
section
variable {X : Cx} {G : Gd} {a : Addr} {g : Nat} {Pv : List Addr} {L : List D} {pins : List (Addr × Obj)} {σ : L2.St} {H : Hp} {s : Shared}
/-- a generator def, called -/
structure YFn (X : Cx) (k : Nat) (f : Addr) (fd : FuncData) (ps : List Str) (F : List D → Option (List D)) : Prop where
  len : ∀ ds L, F ds = some L → ds.length = ps.length
  run : ∀ (pins : List (Addr × Obj)) (σ : L2.St) (B : Fz) (H : Hp) (s : Shared) (args : Args) (us : List Value) (vs : List V) (ds L : List D), Room k X.A → Inv X pins σ H s → Same B.h H → Reps X.K B ds vs → Vals vs us → BindsTo s fd args (ps.zip us) → F ds = some L →
    codeAny (model X.prog X.w) X.A (.call (.ref f) args) (fun r s' => ∃ (a : Addr) (g : Nat) (Pv : List Addr) (φ : Addr → Heap → Prop) (σg : L2.St) (lg : List (Option Slot)), r = .ok (.ret (.ref a)) ∧ Inv X pins σ (onP Pv φ H) s' ∧ (∀ b ∈ Pv, H b = none) ∧ (∀ b, ¬ OwnS σg lg b) ∧ Cf X.K B.nil H σg ⟨lg, []⟩ ∧
      ∀ A, Room k A → A.frames = some X.stack → ∃ G, G.A = A ∧ Zz X G a g Pv L σg lg (onP Pv φ H) s') s
end
end Nc
namespace Nc
open PySem PySem.Spec PyProof.Rows L2 GenW
section
variable {X : Cx} {C f : Addr} {m : Str} {e o : Expr} {es : List Expr} {fo : M D} {as ks : M (List D)} {F : List D → Option (List D)} {k k0 p n : Nat} {fd : FuncData} {ps kn : List Str} {kws : List Keyword} {perm : List Nat} {apos pos : Pos} {pl : Sem Bool}
theorem YFn.mono {k' : Nat} (Y : YFn X k f fd ps F) (h : k ≤ k') : YFn X k' f fd ps F := by
  refine ⟨Y.len, fun pins σ B H s args us vs ds L hr I hB ra r hb hF => codeAny_mono (Y.run pins σ B H s args us vs ds L (hr.mono h) I hB ra r hb hF) fun q s' hq => ?_⟩
  obtain ⟨a, g, Pv, φ, σg, lg, h1, h2, h3, h4, h5, h6⟩ := hq
  exact ⟨a, g, Pv, φ, σg, lg, h1, h2, h3, h4, h5, fun A hA hf => h6 A (hA.mono h) hf⟩
end
end Nc
namespace Nc
open PySem PySem.Spec PyProof.Rows L2 GenW
section
variable {K : PySem.W.Frag} {Pv : List Addr} {σs σ σg : L2.St} {Bs B : Fz} {Hs H : Hp} {ρs ρ : Rho} {lg : List (Option Slot)} {Dl : Addr}
/-- the walker's things alone -/
noncomputable def lone (Pv : List Addr) (σg : L2.St) (lg : List (Option Slot)) (H : Hp) : Hp := by
  classical exact fun b => if b ∈ Pv ∨ OwnS σg lg b then none else H b
theorem lone_in {b : Addr} (h : b ∈ Pv ∨ OwnS σg lg b) : lone Pv σg lg H b = none := by
  unfold lone
  rw [if_pos h]
theorem lone_some {b : Addr} {o : HO} (e : lone Pv σg lg H b = some o) : H b = some o := by
  unfold lone at e
  split at e
  · cases e
  · exact e
theorem Duo.self (c : Cf K B H σ ρ) (cg : Cf K B.nil (off Pv H) σg ⟨lg, []⟩) (ap : ∀ b, OwnS σg lg b → ¬ OwnA σ B ρ b) : Duo K Pv σ B (lone Pv σg lg H) ρ σ B H ρ σg lg where
  st := ⟨c, FSame.refl B, fun b o e _ => lone_some e, (fun b e => by
    obtain ⟨o, h⟩ := Option.ne_none_iff_exists'.mp e
    rw [lone_some h]
    exact Option.some_ne_none o), fun b e n => absurd n e, fun b z => .inl z⟩
  cg := cg
  ap := ap
  new := fun b hb => lone_in (.inr hb)
  newP := fun b hb => lone_in (.inl hb)
end
end Nc
namespace Nc
open PySem PySem.Spec PyProof.Rows L2
def iiD (g : Int → Int → Int) : D → D → Option D
  | .int a, .int b => some (.int (g a b))
  | _, _ => none
end Nc
namespace Nc
open PySem PySem.Spec PyProof.Rows L2 StX
section
variable {X : Cx} {E : WX} {C f : Addr} {fd : FuncData} {ps : List Str} {sp : Sp} {k : Nat} {a b : Expr} {pos : Pos}
def ckBl : D → Bool
  | .bl _ => true
  | _ => false
def notBl : D → Option D
  | .bl b => some (.bl (!b))
  | _ => none
def neOM (C : Addr) (F : Fn) (fa fb : M D) : M D := fa >>= fun d => fb >>= fun e => getO (.d d) >>= fun d0 => M.opt (isObD C d0) >>= fun _ => getO (.d e) >>= fun e0 => M.opt (isObD C e0) >>= fun _ => ckF ckBl F [d, e] >>= fun z => M.opt (notBl z)
end
end Nc
namespace Nc
open PySem PySem.Spec PyProof.Rows L2
end Nc
namespace Nc
open PySem PySem.Spec PyProof.Rows L2
structure InsC (K : PySem.W.Frag) (C : Addr) : Prop where
  cl : Cls K C
  ha : PySem.W.findIn K (.ref C) "__class__" = some (some (.builtin "object.__class__"))
  hn : PySem.W.specialIn K (.builtin "object.__class__") "__get__" = some (some (.builtin "getset_descriptor.__get__"))
  ht : PySem.W.takesIn K (.builtin "object.__class__") = some true
  hm : PySem.W.mroIn K C (.type "object") = some true
def isoD (C : Addr) : D → Option D
  | .ob C' _ _ => if C' = C then some (.bl true) else none
  | _ => none
end Nc
namespace Nc
open PySem PySem.Spec PyProof.Rows L2
end Nc
namespace Nc
open PySem PySem.Spec PyProof.Rows L2
end Nc
namespace Nc
open PySem PySem.Spec PyProof.Rows L2
end Nc
namespace Nc
open PySem PySem.Spec PyProof.Rows L2
def Rs.bnd {α β : Type} (r : Rs α) (g : α → Rho → Rs β) : Rs β := match r with
  | .no => .no
  | .ok a ρ => g a ρ
  | .ex e ρ => .ex e ρ
section
variable {α β γ : Type} {g : α → Rho → Rs β} {a : α} {ρ : Rho} {e : Xn}
theorem Rs.bnd_ok : (Rs.ok a ρ).bnd g = g a ρ := Eq.trans (Eq.refl _) (Eq.refl _)
theorem Rs.bnd_ex : (Rs.ex e ρ : Rs α).bnd g = .ex e ρ := Eq.trans (Eq.refl _) (Eq.refl _)
def thenK (g : α → Rho → Rs β) (h : β → Rho → Rs γ) (a : α) (ρ : Rho) : Rs γ := (g a ρ).bnd h
theorem thenK_r {h : β → Rho → Rs γ} : thenK g h a ρ = (g a ρ).bnd h := Eq.trans (Eq.refl _) (Eq.refl _)
theorem Rs.bnd_assoc {r : Rs α} {h : β → Rho → Rs γ} : (r.bnd g).bnd h = r.bnd (thenK g h) := by cases r <;> rfl
end
def optR {α : Type} (o : Option α) (ρ : Rho) : Rs α := match o with
  | none => .no
  | some a => .ok a ρ
section
variable {α : Type} {a : α} {ρ : Rho}
theorem optR_some : optR (some a) ρ = .ok a ρ := Eq.trans (Eq.refl _) (Eq.refl _)
end
section
variable {l : List (Option Slot)} {g : Cells} {i : Nat} {s : Option Slot}
theorem Rho.get_mk : (Rho.mk l g)[i]? = l[i]? := Eq.trans (Eq.refl _) (Eq.refl _)
theorem Rho.set_mk : (Rho.mk l g).set i s = ⟨l.set i s, g⟩ := Eq.trans (Eq.refl _) (Eq.refl _)
theorem Rho.g_mk : (Rho.mk l g).g = g := Eq.trans (Eq.refl _) (Eq.refl _)
theorem Rho.l_mk : (Rho.mk l g).l = l := Eq.trans (Eq.refl _) (Eq.refl _)
def slotR (s : Option (Option Slot)) (i : Nat) (l : List (Option Slot)) (g : Cells) : Rs D := match s with
  | some (some (.val d)) => .ok d ⟨l, g⟩
  | some (some (.own o)) => .ok o.frozen ⟨l.set i (some (.val o.frozen)), g⟩
  | _ => .no
theorem var_r : var i ⟨l, g⟩ = slotR l[i]? i l g := by
  unfold var slotR
  rw [Rho.get_mk]
  try rfl
theorem slotR_val {d : D} : slotR (some (some (.val d))) i l g = .ok d ⟨l, g⟩ := Eq.trans (Eq.refl _) (Eq.refl _)
theorem slotR_own {o : O} : slotR (some (some (.own o))) i l g = .ok o.frozen ⟨l.set i (some (.val o.frozen)), g⟩ := Eq.trans (Eq.refl _) (Eq.refl _)
def slotK (s : Option (Option Slot)) (i : Nat) (l : List (Option Slot)) (g : Cells) : Rs Opd := match s with
  | some (some _) => .ok (.s i) ⟨l, g⟩
  | _ => .no
theorem varK_r : varK i ⟨l, g⟩ = slotK l[i]? i l g := by
  unfold varK slotK
  rw [Rho.get_mk]
  try rfl
theorem slotK_some {d : Slot} : slotK (some (some d)) i l g = .ok (.s i) ⟨l, g⟩ := Eq.trans (Eq.refl _) (Eq.refl _)
/-- an operand's tree -/
def lookG (g : Cells) : D → Option D
  | .ptr n => (g[n]?).map O.frozen
  | x => some x
theorem look_mk {d : D} : look ⟨l, g⟩ d = lookG g d := by
  cases d with
  | ptr n =>
    simp only [look, lookG]
    cases g[n]? <;> rfl
  | _ => rfl
def datR (s : Option (Option Slot)) (g : Cells) : Option D := match s with
  | some (some (.val x)) => lookG g x
  | some (some (.own y)) => some y.frozen
  | _ => none
theorem dat_s : Opd.dat ⟨l, g⟩ (.s i) = datR l[i]? g := by
  show (match l[i]? with
    | some (some (Slot.val x)) => look ⟨l, g⟩ x
    | some (some (Slot.own y)) => some y.frozen
    | _ => none) = _
  unfold datR
  cases l[i]? with
  | none => rfl
  | some s =>
    cases s with
    | none => rfl
    | some s =>
      cases s with
      | val d => exact look_mk
      | own o => rfl
theorem dat_d {d : D} : Opd.dat ⟨l, g⟩ (.d d) = lookG g d := look_mk
theorem datR_val {x : D} : datR (some (some (.val x))) g = lookG g x := Eq.trans (Eq.refl _) (Eq.refl _)
theorem datR_own {y : O} : datR (some (some (.own y))) g = some y.frozen := Eq.trans (Eq.refl _) (Eq.refl _)
section
variable {b : Bool} {j : Int} {z : Str} {ds : List D} {ks : List Key} {kt : List (List Key)} {C : Addr} {fs : List Str} {n : String} {m : Nat}
theorem lookG_non : lookG g .non = some .non := Eq.trans (Eq.refl _) (Eq.refl _)
theorem lookG_bl : lookG g (.bl b) = some (.bl b) := Eq.trans (Eq.refl _) (Eq.refl _)
theorem lookG_int : lookG g (.int j) = some (.int j) := Eq.trans (Eq.refl _) (Eq.refl _)
theorem lookG_str : lookG g (.str z) = some (.str z) := Eq.trans (Eq.refl _) (Eq.refl _)
theorem lookG_tup : lookG g (.tup ds) = some (.tup ds) := Eq.trans (Eq.refl _) (Eq.refl _)
theorem lookG_lst : lookG g (.lst ds) = some (.lst ds) := Eq.trans (Eq.refl _) (Eq.refl _)
theorem lookG_dk : lookG g (.dk ks ds) = some (.dk ks ds) := Eq.trans (Eq.refl _) (Eq.refl _)
theorem lookG_dt : lookG g (.dt kt ds) = some (.dt kt ds) := Eq.trans (Eq.refl _) (Eq.refl _)
theorem lookG_ob : lookG g (.ob C fs ds) = some (.ob C fs ds) := Eq.trans (Eq.refl _) (Eq.refl _)
theorem lookG_ptr : lookG g (.ptr m) = (g[m]?).map O.frozen := Eq.trans (Eq.refl _) (Eq.refl _)
theorem frozen_lst : (O.lst ds).frozen = .lst ds := Eq.trans (Eq.refl _) (Eq.refl _)
theorem frozen_dk : (O.dk ks ds).frozen = .dk ks ds := Eq.trans (Eq.refl _) (Eq.refl _)
theorem frozen_dt : (O.dt kt ds).frozen = .dt kt ds := Eq.trans (Eq.refl _) (Eq.refl _)
theorem frozen_ob : (O.ob C fs ds).frozen = .ob C fs ds := Eq.trans (Eq.refl _) (Eq.refl _)
end
end
section
variable {α β : Type} {ρ : Rho} {i j : Nat} {f g : M D} {fo : M O} {fa fb : M Opd} {t u : M Bool} {h1 h2 : M Out} {fs : M (List D)} {fr : M Ref}
theorem bind_r {f : M α} {g : α → M β} : (f >>= g) ρ = (f ρ).bnd g := by
  show M.bnd f g ρ = _
  unfold M.bnd Rs.bnd
  cases f ρ <;> rfl
theorem ret_r {a : α} : M.ret a ρ = .ok a ρ := Eq.trans (Eq.refl _) (Eq.refl _)
theorem opt_r {o : Option α} : M.opt o ρ = optR o ρ := by cases o <;> rfl
theorem opt_f {o : Option α} : M.opt o = optR o := funext fun ρ => opt_r
def nextS (h2 : M Out) (o : Out) (ρ : Rho) : Rs Out := match o with
  | .nx => h2 ρ
  | o => .ok o ρ
theorem nextS_nx : nextS h2 .nx ρ = h2 ρ := Eq.trans (Eq.refl _) (Eq.refl _)
theorem nextS_rt {d : D} : nextS h2 (.rt d) ρ = .ok (.rt d) ρ := Eq.trans (Eq.refl _) (Eq.refl _)
theorem nextS_rn : nextS h2 (.rn i) ρ = .ok (.rn i) ρ := Eq.trans (Eq.refl _) (Eq.refl _)
theorem nextS_bk : nextS h2 .bk ρ = .ok .bk ρ := Eq.trans (Eq.refl _) (Eq.refl _)
theorem nextS_ct : nextS h2 .ct ρ = .ok .ct ρ := Eq.trans (Eq.refl _) (Eq.refl _)
theorem then_r : thenS h1 h2 ρ = (h1 ρ).bnd (nextS h2) := by
  unfold thenS
  rw [bind_r]
  congr 1
  funext o ρ'
  cases o <;> rfl
def ifK {α : Type} (f g : M α) (b : Bool) (ρ : Rho) : Rs α := match b with
  | true => f ρ
  | false => g ρ
theorem ifK_t {f g : M α} : ifK f g true ρ = f ρ := Eq.trans (Eq.refl _) (Eq.refl _)
theorem ifK_f {f g : M α} : ifK f g false ρ = g ρ := Eq.trans (Eq.refl _) (Eq.refl _)
theorem if_r {f g : M α} : ifM t f g ρ = (t ρ).bnd (ifK f g) := by
  unfold ifM
  rw [bind_r]
  congr 1
  funext b ρ'
  cases b <;> rfl
def setK (i : Nat) (d : D) (ρ : Rho) : Rs Out := .ok .nx (ρ.set i (some (.val d)))
theorem setK_r {d : D} : setK i d ρ = .ok .nx (ρ.set i (some (.val d))) := Eq.trans (Eq.refl _) (Eq.refl _)
theorem set_r : setS i f ρ = (f ρ).bnd (setK i) := bind_r
def setNK (i : Nat) (d : O) (ρ : Rho) : Rs Out := .ok .nx (ρ.set i (some (.own d)))
theorem setNK_r {d : O} : setNK i d ρ = .ok .nx (ρ.set i (some (.own d))) := Eq.trans (Eq.refl _) (Eq.refl _)
theorem setN_r : setN i fo ρ = (fo ρ).bnd (setNK i) := bind_r
def retK (d : D) (ρ : Rho) : Rs Out := .ok (.rt d) ρ
theorem retK_r {d : D} : retK d ρ = .ok (.rt d) ρ := Eq.trans (Eq.refl _) (Eq.refl _)
theorem retS_r : retS f ρ = (f ρ).bnd retK := bind_r
def nxK {α : Type} (_ : α) (ρ : Rho) : Rs Out := .ok .nx ρ
theorem nxK_r {α : Type} {a : α} : nxK a ρ = .ok .nx ρ := Eq.trans (Eq.refl _) (Eq.refl _)
theorem drop_r : dropS f ρ = (f ρ).bnd nxK := bind_r
def opdK (d : D) (ρ : Rho) : Rs Opd := .ok (.d d) ρ
theorem opdK_r {d : D} : opdK d ρ = .ok (.d d) ρ := Eq.trans (Eq.refl _) (Eq.refl _)
theorem opd_r : opdM f ρ = (f ρ).bnd opdK := bind_r
def frzK (o : O) (ρ : Rho) : Rs D := .ok o.frozen ρ
theorem frzK_r {o : O} : frzK o ρ = .ok o.frozen ρ := Eq.trans (Eq.refl _) (Eq.refl _)
theorem frz_r : frzM fo ρ = (fo ρ).bnd frzK := bind_r
def cellK (o : O) (ρ : Rho) : Rs D := .ok (.ptr ρ.g.length) ⟨ρ.l, ρ.g ++ [o]⟩
theorem cellK_r {o : O} {l : List (Option Slot)} {g : Cells} : cellK o ⟨l, g⟩ = .ok (.ptr g.length) ⟨l, g ++ [o]⟩ := Eq.trans (Eq.refl _) (Eq.refl _)
theorem cell_r : cellM fo ρ = (fo ρ).bnd cellK := bind_r
/-- an operation on a known tree -/
def opK {α β : Type} (op : α → Option β) (d : α) (ρ : Rho) : Rs β := optR (op d) ρ
theorem opK_r {α β : Type} {op : α → Option β} {d : α} : opK op d ρ = optR (op d) ρ := Eq.trans (Eq.refl _) (Eq.refl _)
theorem op_f {α β : Type} {op : α → Option β} : (fun d => M.opt (op d)) = opK op := by
  funext d ρ
  exact opt_r
theorem op_r {α β : Type} {op : α → Option β} {f : M α} : (f >>= fun d => M.opt (op d)) ρ = (f ρ).bnd (opK op) := by
  rw [bind_r, op_f]
def b2A {β : Type} (op : D → D → Option β) (g : M D) (d : D) (ρ : Rho) : Rs β := (g ρ).bnd (opK (op d))
theorem b2A_r {β : Type} {op : D → D → Option β} {d : D} : b2A op g d ρ = (g ρ).bnd (opK (op d)) := Eq.trans (Eq.refl _) (Eq.refl _)
theorem b2G_r {β : Type} {op : D → D → Option β} : (f >>= fun d => g >>= fun e => M.opt (op d e)) ρ = (f ρ).bnd (b2A op g) := by
  rw [bind_r]
  congr 1
  funext d ρ1
  exact op_r
theorem b2_r {op : D → D → Option D} : b2 op f g ρ = (f ρ).bnd (b2A op g) := b2G_r
theorem b2N_r {op : D → D → Option O} : b2N op f g ρ = (f ρ).bnd (b2A op g) := b2G_r
theorem listRng_r : listRngM f ρ = (f ρ).bnd (opK rngO) := op_r
theorem neg_r : (f >>= fun d => M.opt (negD d)) ρ = (f ρ).bnd (opK negD) := op_r
theorem getO_r {o : Opd} : getO o ρ = optR (o.dat ρ) ρ := by
  unfold getO optR
  cases o.dat ρ <;> rfl
/-- an operation on an operand -/
def k1A (op : D → Option α) (o : Opd) (ρ : Rho) : Rs α := (optR (o.dat ρ) ρ).bnd (opK op)
theorem k1A_r {op : D → Option α} {o : Opd} : k1A op o ρ = (optR (o.dat ρ) ρ).bnd (opK op) := Eq.trans (Eq.refl _) (Eq.refl _)
theorem k1_r {op : D → Option α} : k1 op fa ρ = (fa ρ).bnd (k1A op) := by
  unfold k1
  rw [bind_r]
  congr 1
  funext o ρ1
  rw [bind_r, getO_r, op_f]
  rfl
def k2A (op : D → D → Option D) (fb : M Opd) (o : Opd) (ρ : Rho) : Rs D := (fb ρ).bnd fun u ρ => (optR (o.dat ρ) ρ).bnd fun d ρ => (optR (u.dat ρ) ρ).bnd (opK (op d))
def k2B (op : D → D → Option D) (o u : Opd) (ρ : Rho) : Rs D := (optR (o.dat ρ) ρ).bnd fun d ρ => (optR (u.dat ρ) ρ).bnd (opK (op d))
def k2C (op : D → D → Option D) (u : Opd) (d : D) (ρ : Rho) : Rs D := (optR (u.dat ρ) ρ).bnd (opK (op d))
theorem k2A_r {op : D → D → Option D} {o : Opd} : k2A op fb o ρ = (fb ρ).bnd (k2B op o) := Eq.trans (Eq.refl _) (Eq.refl _)
theorem k2B_r {op : D → D → Option D} {o u : Opd} : k2B op o u ρ = (optR (o.dat ρ) ρ).bnd (k2C op u) := Eq.trans (Eq.refl _) (Eq.refl _)
theorem k2C_r {op : D → D → Option D} {u : Opd} {d : D} : k2C op u d ρ = (optR (u.dat ρ) ρ).bnd (opK (op d)) := Eq.trans (Eq.refl _) (Eq.refl _)
theorem k2_r {op : D → D → Option D} : k2 op fa fb ρ = (fa ρ).bnd (k2A op fb) := by
  unfold k2
  rw [bind_r]
  congr 1
  funext o ρ1
  rw [bind_r]
  unfold k2A
  congr 1
  funext u ρ2
  rw [bind_r, getO_r]
  congr 1
  funext d ρ3
  rw [bind_r, getO_r, op_f]
def slA (fl fh : M (Option Int)) (o : Opd) (ρ : Rho) : Rs D := (fl ρ).bnd fun l ρ => (fh ρ).bnd fun u ρ => (optR (o.dat ρ) ρ).bnd (opK (slD l u))
def slB (fh : M (Option Int)) (o : Opd) (l : Option Int) (ρ : Rho) : Rs D := (fh ρ).bnd fun u ρ => (optR (o.dat ρ) ρ).bnd (opK (slD l u))
def slC (o : Opd) (l u : Option Int) (ρ : Rho) : Rs D := (optR (o.dat ρ) ρ).bnd (opK (slD l u))
theorem slA_r {fl fh : M (Option Int)} {o : Opd} : slA fl fh o ρ = (fl ρ).bnd (slB fh o) := Eq.trans (Eq.refl _) (Eq.refl _)
theorem slB_r {fh : M (Option Int)} {o : Opd} {l : Option Int} : slB fh o l ρ = (fh ρ).bnd (slC o l) := Eq.trans (Eq.refl _) (Eq.refl _)
theorem slC_r {o : Opd} {l u : Option Int} : slC o l u ρ = (optR (o.dat ρ) ρ).bnd (opK (slD l u)) := Eq.trans (Eq.refl _) (Eq.refl _)
theorem sl_r {fl fh : M (Option Int)} : slM fa fl fh ρ = (fa ρ).bnd (slA fl fh) := by
  unfold slM
  rw [bind_r]
  congr 1
  funext o ρ1
  rw [bind_r]
  unfold slA
  congr 1
  funext l ρ2
  rw [bind_r]
  congr 1
  funext u ρ3
  rw [bind_r, getO_r, op_f]
def asSome (d : D) : Option (Option Int) := (asI d).map some
theorem asSome_int {i : Int} : asSome (.int i) = some (some i) := Eq.trans (Eq.refl _) (Eq.refl _)
theorem part_r : partM f ρ = (f ρ).bnd (opK asSome) := by
  unfold partM
  rw [bind_r]
  congr 1
  funext d ρ1
  rw [bind_r, opt_r]
  unfold opK asSome
  cases asI d <;> rfl
theorem tst_r : tst f ρ = (f ρ).bnd (opK asB) := op_r
def andK (u : M Bool) (b : Bool) (ρ : Rho) : Rs Bool := match b with
  | true => u ρ
  | false => .ok false ρ
theorem andK_t : andK u true ρ = u ρ := Eq.trans (Eq.refl _) (Eq.refl _)
theorem andK_f : andK u false ρ = .ok false ρ := Eq.trans (Eq.refl _) (Eq.refl _)
theorem and_r : andM t u ρ = (t ρ).bnd (andK u) := by
  unfold andM
  rw [bind_r]
  congr 1
  funext b ρ1
  cases b <;> rfl
def orK (u : M Bool) (b : Bool) (ρ : Rho) : Rs Bool := match b with
  | true => .ok true ρ
  | false => u ρ
theorem orK_t : orK u true ρ = .ok true ρ := Eq.trans (Eq.refl _) (Eq.refl _)
theorem orK_f : orK u false ρ = u ρ := Eq.trans (Eq.refl _) (Eq.refl _)
theorem or_r : orM t u ρ = (t ρ).bnd (orK u) := by
  unfold orM
  rw [bind_r]
  congr 1
  funext b ρ1
  cases b <;> rfl
def notK (b : Bool) (ρ : Rho) : Rs Bool := .ok (!b) ρ
theorem notK_r {b : Bool} : notK b ρ = .ok (!b) ρ := Eq.trans (Eq.refl _) (Eq.refl _)
theorem not_r : notM t ρ = (t ρ).bnd notK := bind_r
def andVK (g : M D) (d : D) (ρ : Rho) : Rs D := match d with
  | .bl true => g ρ
  | .bl false => .ok (.bl false) ρ
  | _ => .no
theorem andVK_t : andVK g (.bl true) ρ = g ρ := Eq.trans (Eq.refl _) (Eq.refl _)
theorem andVK_f : andVK g (.bl false) ρ = .ok (.bl false) ρ := Eq.trans (Eq.refl _) (Eq.refl _)
theorem andV_r : andV f g ρ = (f ρ).bnd (andVK g) := by
  unfold andV
  rw [bind_r]
  congr 1
  funext d ρ1
  rw [bind_r, opt_r]
  cases d with
  | bl b => cases b <;> rfl
  | _ => rfl
def orVK (g : M D) (d : D) (ρ : Rho) : Rs D := match d with
  | .bl true => .ok (.bl true) ρ
  | .bl false => g ρ
  | _ => .no
theorem orVK_t : orVK g (.bl true) ρ = .ok (.bl true) ρ := Eq.trans (Eq.refl _) (Eq.refl _)
theorem orVK_f : orVK g (.bl false) ρ = g ρ := Eq.trans (Eq.refl _) (Eq.refl _)
theorem orV_r : orV f g ρ = (f ρ).bnd (orVK g) := by
  unfold orV
  rw [bind_r]
  congr 1
  funext d ρ1
  rw [bind_r, opt_r]
  cases d with
  | bl b => cases b <;> rfl
  | _ => rfl
def asNB (d : D) : Option D := (asB d).map fun b => .bl (!b)
theorem asNB_bl {b : Bool} : asNB (.bl b) = some (.bl (!b)) := Eq.trans (Eq.refl _) (Eq.refl _)
theorem notV_r : notV f ρ = (f ρ).bnd (opK asNB) := by
  unfold notV
  rw [bind_r]
  congr 1
  funext d ρ1
  rw [bind_r, opt_r]
  unfold opK asNB
  cases asB d <;> rfl
theorem asB_bl {b : Bool} : asB (.bl b) = some b := Eq.trans (Eq.refl _) (Eq.refl _)
def consK (fs : M (List D)) (d : D) (ρ : Rho) : Rs (List D) := (fs ρ).bnd fun ds ρ => .ok (d :: ds) ρ
def consL (d : D) (ds : List D) (ρ : Rho) : Rs (List D) := .ok (d :: ds) ρ
theorem consK_r {d : D} : consK fs d ρ = (fs ρ).bnd (consL d) := Eq.trans (Eq.refl _) (Eq.refl _)
theorem consL_r {d : D} {ds : List D} : consL d ds ρ = .ok (d :: ds) ρ := Eq.trans (Eq.refl _) (Eq.refl _)
theorem cons_r : consM f fs ρ = (f ρ).bnd (consK fs) := by
  unfold consM
  rw [bind_r]
  congr 1
theorem lst_r : lstM fs ρ = (fs ρ).bnd (opK sizedL) := op_r
theorem tup_r : tupM fs ρ = (fs ρ).bnd (opK sizedT) := op_r
def slotF (s : Option (Option Slot)) (i : Nat) (l : List (Option Slot)) (g : Cells) : Rs Ref := match s with
  | some (some (.own _)) => .ok (.s i) ⟨l, g⟩
  | some (some (.val (.ptr n))) => .ok (.c n) ⟨l, g⟩
  | _ => .no
theorem refS_r {l : List (Option Slot)} {g : Cells} : refS i ⟨l, g⟩ = slotF l[i]? i l g := by
  unfold refS slotF
  rw [Rho.get_mk]
  try rfl
theorem slotF_own {l : List (Option Slot)} {g : Cells} {o : O} : slotF (some (some (.own o))) i l g = .ok (.s i) ⟨l, g⟩ := Eq.trans (Eq.refl _) (Eq.refl _)
theorem slotF_ptr {l : List (Option Slot)} {g : Cells} {n : Nat} : slotF (some (some (.val (.ptr n)))) i l g = .ok (.c n) ⟨l, g⟩ := Eq.trans (Eq.refl _) (Eq.refl _)
theorem refD_r : refD f ρ = (f ρ).bnd (opK asRef) := op_r
theorem asRef_ptr {n : Nat} : asRef (.ptr n) = some (.c n) := Eq.trans (Eq.refl _) (Eq.refl _)
def ownR (s : Option (Option Slot)) : Option O := match s with
  | some (some (.own o)) => some o
  | _ => none
theorem getR_sm {l : List (Option Slot)} {g : Cells} : getR ⟨l, g⟩ (.s i) = ownR l[i]? := by
  show (match l[i]? with
    | some (some (Slot.own o)) => some o
    | _ => none) = _
  unfold ownR
  rfl
theorem ownR_own {o : O} : ownR (some (some (.own o))) = some o := Eq.trans (Eq.refl _) (Eq.refl _)
theorem getR_cm {l : List (Option Slot)} {g : Cells} : getR ⟨l, g⟩ (.c i) = g[i]? := Eq.trans (Eq.refl _) (Eq.refl _)
theorem setR_s {l : List (Option Slot)} {g : Cells} {o : O} : setR ⟨l, g⟩ (.s i) o = ⟨l.set i (some (.own o)), g⟩ := Eq.trans (Eq.refl _) (Eq.refl _)
theorem setR_c {l : List (Option Slot)} {g : Cells} {o : O} : setR ⟨l, g⟩ (.c i) o = ⟨l, g.set i o⟩ := Eq.trans (Eq.refl _) (Eq.refl _)
theorem chkO_r {r : Ref} {k : O → Option α} : chkO r k ρ = optR ((getR ρ r).bind k) ρ := by
  unfold chkO optR
  cases getR ρ r with
  | none => rfl
  | some o => cases h : k o <;> simp [h]
def updK (r : Ref) (z : α × O) (ρ : Rho) : Rs α := .ok z.1 (setR ρ r z.2)
theorem updK_r {r : Ref} {z : α} {o : O} : updK r (z, o) ρ = .ok z (setR ρ r o) := Eq.trans (Eq.refl _) (Eq.refl _)
theorem updO_r {r : Ref} {op : O → Option (α × O)} : updO r op ρ = (optR ((getR ρ r).bind op) ρ).bnd (updK r) := by
  unfold updO optR
  cases getR ρ r with
  | none => rfl
  | some o => cases h : op o <;> simp [h, Rs.bnd, updK]
theorem isL_lst {ds : List D} : isL (.lst ds) = some ds := Eq.trans (Eq.refl _) (Eq.refl _)
theorem opL_lst {op : List D → Option (D × List D)} {ds : List D} : opL op (.lst ds) = (op ds).map fun z => (z.1, .lst z.2) := Eq.trans (Eq.refl _) (Eq.refl _)
def lm1A (op : List D → D → Option (D × List D)) (f : M D) (r : Ref) (ρ : Rho) : Rs D := (chkO r isL ρ).bnd fun _ ρ => (f ρ).bnd fun d ρ => updO r (opL fun ds => op ds d) ρ
def lm1B (op : List D → D → Option (D × List D)) (f : M D) (r : Ref) (_ : List D) (ρ : Rho) : Rs D := (f ρ).bnd fun d ρ => updO r (opL fun ds => op ds d) ρ
def lm1C (op : List D → D → Option (D × List D)) (r : Ref) (d : D) (ρ : Rho) : Rs D := updO r (opL fun ds => op ds d) ρ
theorem lm1A_r {op : List D → D → Option (D × List D)} {r : Ref} : lm1A op f r ρ = (chkO r isL ρ).bnd (lm1B op f r) := Eq.trans (Eq.refl _) (Eq.refl _)
theorem lm1B_r {op : List D → D → Option (D × List D)} {r : Ref} {x : List D} : lm1B op f r x ρ = (f ρ).bnd (lm1C op r) := Eq.trans (Eq.refl _) (Eq.refl _)
theorem lm1C_r {op : List D → D → Option (D × List D)} {r : Ref} {d : D} : lm1C op r d ρ = updO r (opL fun ds => op ds d) ρ := Eq.trans (Eq.refl _) (Eq.refl _)
theorem lm1_r {op : List D → D → Option (D × List D)} : lm1 op fr f ρ = (fr ρ).bnd (lm1A op f) := by
  unfold lm1
  rw [bind_r]
  congr 1
def lm0A (op : List D → Option (D × List D)) (r : Ref) (ρ : Rho) : Rs D := updO r (opL op) ρ
theorem lm0A_r {op : List D → Option (D × List D)} {r : Ref} : lm0A op r ρ = updO r (opL op) ρ := Eq.trans (Eq.refl _) (Eq.refl _)
theorem lm0_r {op : List D → Option (D × List D)} : lm0 op fr ρ = (fr ρ).bnd (lm0A op) := by
  unfold lm0
  rw [bind_r]
  rfl
def itA (fr : M Ref) (g : M D) (d : D) (ρ : Rho) : Rs Out := (fr ρ).bnd fun r ρ => (chkO r isL ρ).bnd fun _ ρ => (g ρ).bnd fun j ρ => (updO r (opL fun ds => (setIx ds j d).map fun es => (.non, es)) ρ).bnd nxK
def itB (g : M D) (d : D) (r : Ref) (ρ : Rho) : Rs Out := (chkO r isL ρ).bnd fun _ ρ => (g ρ).bnd fun j ρ => (updO r (opL fun ds => (setIx ds j d).map fun es => (.non, es)) ρ).bnd nxK
def itC (g : M D) (d : D) (r : Ref) (_ : List D) (ρ : Rho) : Rs Out := (g ρ).bnd fun j ρ => (updO r (opL fun ds => (setIx ds j d).map fun es => (.non, es)) ρ).bnd nxK
def itD (d : D) (r : Ref) (j : D) (ρ : Rho) : Rs Out := (updO r (opL fun ds => (setIx ds j d).map fun es => (.non, es)) ρ).bnd nxK
theorem itA_r {d : D} : itA fr g d ρ = (fr ρ).bnd (itB g d) := Eq.trans (Eq.refl _) (Eq.refl _)
theorem itB_r {d : D} {r : Ref} : itB g d r ρ = (chkO r isL ρ).bnd (itC g d r) := Eq.trans (Eq.refl _) (Eq.refl _)
theorem itC_r {d : D} {r : Ref} {x : List D} : itC g d r x ρ = (g ρ).bnd (itD d r) := Eq.trans (Eq.refl _) (Eq.refl _)
theorem itD_r {d j : D} {r : Ref} : itD d r j ρ = (updO r (opL fun ds => (setIx ds j d).map fun es => (.non, es)) ρ).bnd nxK := Eq.trans (Eq.refl _) (Eq.refl _)
theorem item_r : itemS fr f g ρ = (f ρ).bnd (itA fr g) := by
  unfold itemS
  rw [bind_r]
  congr 1
theorem seqI_r : seqI f ρ = (f ρ).bnd (opK itemsD) := op_r
theorem items_lst {ds : List D} : itemsD (.lst ds) = some ds := Eq.trans (Eq.refl _) (Eq.refl _)
theorem items_tup {ds : List D} : itemsD (.tup ds) = some ds := Eq.trans (Eq.refl _) (Eq.refl _)
theorem items_str {z : Str} : itemsD (.str z) = some (signsL z) := Eq.trans (Eq.refl _) (Eq.refl _)
theorem rngI_r : rngI f ρ = (f ρ).bnd (opK rng1) := op_r
theorem rngI2_r : rngI2 f g ρ = (f ρ).bnd (b2A rng2 g) := b2G_r
theorem zipI_r : zipI f g ρ = (f ρ).bnd (b2A zipD g) := b2G_r
theorem bndN_r {d : D} : bndN i d ρ = .ok () (ρ.set i (some (.val d))) := Eq.trans (Eq.refl _) (Eq.refl _)
theorem bndT_r {is : List Nat} {ds : List D} : bndT is (.tup ds) ρ = bndS is ds ρ := Eq.trans (Eq.refl _) (Eq.refl _)
theorem bndQ_r {is : List Nat} {ds : List D} : bndQ is (.lst ds) ρ = bndS is ds ρ := Eq.trans (Eq.refl _) (Eq.refl _)
theorem bndS_nil : bndS [] [] ρ = .ok () ρ := Eq.trans (Eq.refl _) (Eq.refl _)
theorem bndS_cons {is : List Nat} {d : D} {ds : List D} : bndS (i :: is) (d :: ds) ρ = bndS is ds (ρ.set i (some (.val d))) := Eq.trans (Eq.refl _) (Eq.refl _)
def asgK (bnd : D → M Unit) (d : D) (ρ : Rho) : Rs Out := (bnd d ρ).bnd nxK
theorem asgK_r {bnd : D → M Unit} {d : D} : asgK bnd d ρ = (bnd d ρ).bnd nxK := Eq.trans (Eq.refl _) (Eq.refl _)
theorem asg_r {bnd : D → M Unit} : asgS bnd f ρ = (f ρ).bnd (asgK bnd) := by
  unfold asgS
  rw [bind_r]
  congr 1
def parR (i j : Nat) (ds : List D) (ρ : Rho) : Rs Out := match ds with
  | [d, e] => .ok .nx ((ρ.set i (some (.val d))).set j (some (.val e)))
  | _ => .no
theorem parR_2 {d e : D} : parR i j [d, e] ρ = .ok .nx ((ρ.set i (some (.val d))).set j (some (.val e))) := Eq.trans (Eq.refl _) (Eq.refl _)
theorem par_r : parS i j fs ρ = (fs ρ).bnd (parR i j) := by
  refine (bind_r (f := fs) (g := fun ds ρ => _)).trans ?_
  congr 1
def par3R (i j k : Nat) (ds : List D) (ρ : Rho) : Rs Out := match ds with
  | [d, e, z] => .ok .nx (((ρ.set i (some (.val d))).set j (some (.val e))).set k (some (.val z)))
  | _ => .no
theorem par3R_3 {k : Nat} {d e z : D} : par3R i j k [d, e, z] ρ = .ok .nx (((ρ.set i (some (.val d))).set j (some (.val e))).set k (some (.val z))) := Eq.trans (Eq.refl _) (Eq.refl _)
theorem par3_r {k : Nat} : par3S i j k fs ρ = (fs ρ).bnd (par3R i j k) := by
  refine (bind_r (f := fs) (g := fun ds ρ => _)).trans ?_
  congr 1
def parNB (i j : Nat) (o1 o2 : O) (ρ : Rho) : Rs Out := .ok .nx ((ρ.set i (some (.own o1))).set j (some (.own o2)))
def parNA (i j : Nat) (f2 : M O) (o1 : O) (ρ : Rho) : Rs Out := (f2 ρ).bnd (parNB i j o1)
theorem parNA_r {f2 : M O} {o1 : O} : parNA i j f2 o1 ρ = (f2 ρ).bnd (parNB i j o1) := Eq.trans (Eq.refl _) (Eq.refl _)
theorem parNK_r {o1 o2 : O} : parNB i j o1 o2 ρ = .ok .nx ((ρ.set i (some (.own o1))).set j (some (.own o2))) := Eq.trans (Eq.refl _) (Eq.refl _)
theorem parN_r {f1 f2 : M O} : parNS i j f1 f2 ρ = (f1 ρ).bnd (parNA i j f2) := by
  unfold parNS
  rw [bind_r]
  congr 1
def kwA (p n : Nat) (perm : List Nat) (ks : M (List D)) (ds : List D) (ρ : Rho) : Rs (List D) := (ks ρ).bnd fun zs ρ => .ok (kwG p n perm ds zs) ρ
def kwB (p n : Nat) (perm : List Nat) (ds zs : List D) (ρ : Rho) : Rs (List D) := .ok (kwG p n perm ds zs) ρ
theorem kwA_r {p n : Nat} {perm : List Nat} {ks : M (List D)} {ds : List D} : kwA p n perm ks ds ρ = (ks ρ).bnd (kwB p n perm ds) := Eq.trans (Eq.refl _) (Eq.refl _)
theorem kwB_r {p n : Nat} {perm : List Nat} {ds zs : List D} : kwB p n perm ds zs ρ = .ok (kwG p n perm ds zs) ρ := Eq.trans (Eq.refl _) (Eq.refl _)
theorem kw_r {p n : Nat} {perm : List Nat} {as ks : M (List D)} : kwM p n perm as ks ρ = (as ρ).bnd (kwA p n perm ks) := by
  unfold kwM
  rw [bind_r]
  congr 1
theorem kwG_11 {d e : D} : kwG 1 1 [0] [d] [e] = [d, e] := Eq.trans (Eq.refl _) (Eq.refl _)
theorem kwG_01 {e : D} : kwG 0 1 [0] [] [e] = [e] := Eq.trans (Eq.refl _) (Eq.refl _)
theorem isLD_lst {ds : List D} : isLD (.lst ds) = some () := Eq.trans (Eq.refl _) (Eq.refl _)
def idxA (fb : M Opd) (o : Opd) (ρ : Rho) : Rs D := ((optR (o.dat ρ) ρ).bnd (opK isLD)).bnd fun _ ρ => (fb ρ).bnd (k2B idxD o)
def idxB (fb : M Opd) (o : Opd) (_ : Unit) (ρ : Rho) : Rs D := (fb ρ).bnd (k2B idxD o)
theorem idxA_r {o : Opd} : idxA fb o ρ = ((optR (o.dat ρ) ρ).bnd (opK isLD)).bnd (idxB fb o) := Eq.trans (Eq.refl _) (Eq.refl _)
theorem idxB_r {o : Opd} {u : Unit} : idxB fb o u ρ = (fb ρ).bnd (k2B idxD o) := Eq.trans (Eq.refl _) (Eq.refl _)
theorem idx_r : idxM fa fb ρ = (fa ρ).bnd (idxA fb) := by
  unfold idxM
  rw [bind_r]
  congr 1
  funext o ρ1
  rw [bind_r, getO_r]
  unfold idxA
  cases o.dat ρ1 with
  | none => rfl
  | some d =>
    show (M.opt (isLD d) >>= _) ρ1 = _
    rw [bind_r, opt_r]
    show (optR (isLD d) ρ1).bnd _ = (optR (isLD d) ρ1).bnd _
    congr 1
    funext _ ρ2
    rw [bind_r]
    congr 1
    funext u ρ3
    rw [bind_r, getO_r]
    unfold k2B
    congr 1
    funext d ρ4
    rw [bind_r, getO_r, op_f]
def endC (l : List (Option Slot)) : Rf → Rs D
  | .no => .no
  | .ok d g => .ok d ⟨l, g⟩
  | .new o g => .ok o.frozen ⟨l, g⟩
  | .ex e g => .ex e ⟨l, g⟩
def endN (l : List (Option Slot)) : Rf → Rs O
  | .no => .no
  | .ok d g => .no
  | .new o g => .ok o ⟨l, g⟩
  | .ex e g => .ex e ⟨l, g⟩
def callK (F : Fn) (ds : List D) (ρ : Rho) : Rs D := endC ρ.l (F ds ρ.g)
theorem callK_r {F : Fn} {ds : List D} {l : List (Option Slot)} {g : Cells} : callK F ds ⟨l, g⟩ = endC l (F ds g) := Eq.trans (Eq.refl _) (Eq.refl _)
theorem call_r {F : Fn} : callM F fs ρ = (fs ρ).bnd (callK F) := by
  refine (bind_r (f := fs) (g := fun ds ρ => _)).trans ?_
  congr 1
def callNK (F : Fn) (ds : List D) (ρ : Rho) : Rs O := endN ρ.l (F ds ρ.g)
theorem callNK_r {F : Fn} {ds : List D} {l : List (Option Slot)} {g : Cells} : callNK F ds ⟨l, g⟩ = endN l (F ds g) := Eq.trans (Eq.refl _) (Eq.refl _)
theorem callN_r {F : Fn} : callN F fs ρ = (fs ρ).bnd (callNK F) := by
  refine (bind_r (f := fs) (g := fun ds ρ => _)).trans ?_
  congr 1
theorem endC_ok {l : List (Option Slot)} {d : D} {g : Cells} : endC l (.ok d g) = .ok d ⟨l, g⟩ := Eq.trans (Eq.refl _) (Eq.refl _)
theorem endC_new {l : List (Option Slot)} {o : O} {g : Cells} : endC l (.new o g) = .ok o.frozen ⟨l, g⟩ := Eq.trans (Eq.refl _) (Eq.refl _)
theorem endN_new {l : List (Option Slot)} {o : O} {g : Cells} : endN l (.new o g) = .ok o ⟨l, g⟩ := Eq.trans (Eq.refl _) (Eq.refl _)
/-- a def's run -/
theorem run_rt {n k : Nat} {h : M Out} {ds : List D} {g g' : Cells} {l l' : List (Option Slot)} {d : D} (hl : ds.length = k) (hs : vals ds ++ List.replicate (n - ds.length) none = l) (e : h ⟨l, g⟩ = .ok (.rt d) ⟨l', g'⟩) : runB n k h ds g = .ok d g' := by
  unfold runB startR
  rw [if_pos hl, hs, e]
  rfl
theorem run_nx {n k : Nat} {h : M Out} {ds : List D} {g g' : Cells} {l l' : List (Option Slot)} (hl : ds.length = k) (hs : vals ds ++ List.replicate (n - ds.length) none = l) (e : h ⟨l, g⟩ = .ok .nx ⟨l', g'⟩) : runB n k h ds g = .ok .non g' := by
  unfold runB startR
  rw [if_pos hl, hs, e]
  rfl
end
theorem lt_size {n : Nat} (h : n < 100000) : n < sizeLine := Nat.lt_of_lt_of_le h (by decide)
theorem le_size {n : Nat} (h : n < 100000) : n ≤ sizeLine := Nat.le_of_lt (lt_size h)
theorem sizedL_r {ds : List D} (h : ds.length < 100000) : sizedL ds = some (.lst ds) := if_pos (le_size h)
theorem sizedT_r {ds : List D} (h : ds.length < 100000) : sizedT ds = some (.tup ds) := if_pos (le_size h)
section
variable {β : Type} {bnd : D → M Unit} {tt : M Bool} {el : M D} {vs : List Nat} {src : M (List D)} {ρ : Rho}
theorem wipe_r {l : List (Option Slot)} {g : Cells} : wipeR ⟨l, g⟩ vs = ⟨vs.foldr (fun v l => l.set v none) l, g⟩ := by
  induction vs with
  | nil => rfl
  | cons v vs ih =>
    unfold wipeR
    rw [ih]
    rfl
def inL : List Nat → Nat → Bool
  | [], _ => false
  | v :: vs, i => v == i || inL vs i
theorem inL_iff {i : Nat} : ∀ {vs : List Nat}, inL vs i = true ↔ i ∈ vs
  | [] => by simp [inL]
  | v :: vs => by
    simp only [inL, Bool.or_eq_true, beq_iff_eq, inL_iff (vs := vs), List.mem_cons]
    exact ⟨fun h => h.imp_left Eq.symm, fun h => h.imp_left Eq.symm⟩
/-- behind a block, slot by slot -/
def mixG (vs : List Nat) : Nat → List (Option Slot) → List (Option Slot) → List (Option Slot)
  | _, _, [] => []
  | i, [], s :: l' => (bif inL vs i then none else s) :: mixG vs (i + 1) [] l'
  | i, a :: l, s :: l' => (bif inL vs i then a else s) :: mixG vs (i + 1) l l'
theorem mixG_at {vs : List Nat} : ∀ (l' l : List (Option Slot)) (k : Nat), mixG vs k l l' = l'.mapIdx fun i s => if k + i ∈ vs then (l[i]?).getD none else s
  | [], l, k => by cases l <;> simp [mixG]
  | s :: l', l, k => by
    rw [List.mapIdx_cons]
    cases l with
    | nil =>
      simp only [mixG, mixG_at l' [] (k + 1)]
      congr 1
      · by_cases h : k ∈ vs
        · simp [h, inL_iff.mpr h]
        · have : inL vs k = false := by cases e : inL vs k with | false => rfl | true => exact absurd (inL_iff.mp e) h
          simp [h, this]
      · congr 1
        funext i s
        rw [show k + 1 + i = k + (i + 1) by omega]
        simp
    | cons a l =>
      simp only [mixG, mixG_at l' l (k + 1)]
      congr 1
      · by_cases h : k ∈ vs
        · simp [h, inL_iff.mpr h]
        · have : inL vs k = false := by cases e : inL vs k with | false => rfl | true => exact absurd (inL_iff.mp e) h
          simp [h, this]
      · congr 1
        funext i s
        rw [show k + 1 + i = k + (i + 1) by omega, List.getElem?_cons_succ]
theorem mix_r {l l' : List (Option Slot)} {g g' : Cells} : mixR ⟨l, g⟩ ⟨l', g'⟩ vs = ⟨mixG vs 0 l l', g'⟩ := by
  unfold mixR
  rw [mixG_at]
  simp only [Nat.zero_add]
  rfl
theorem mixG_nil {i : Nat} {l : List (Option Slot)} : mixG vs i l [] = [] := by cases l <;> rfl
theorem mixG_cons {i : Nat} {a s : Option Slot} {l l' : List (Option Slot)} : mixG vs i (a :: l) (s :: l') = (bif inL vs i then a else s) :: mixG vs (i + 1) l l' := Eq.trans (Eq.refl _) (Eq.refl _)
theorem inL_nil {i : Nat} : inL [] i = false := Eq.trans (Eq.refl _) (Eq.refl _)
theorem inL_cons {v i : Nat} : inL (v :: vs) i = (v == i || inL vs i) := Eq.trans (Eq.refl _) (Eq.refl _)
def endT {α : Type} (ρ : Rho) (vs : List Nat) : Rs α → Rs α
  | .ok r ρ' => .ok r (mixR ρ ρ' vs)
  | _ => .no
theorem endT_ok {α : Type} {a : α} {ρ' : Rho} : endT ρ vs (.ok a ρ') = .ok a (mixR ρ ρ' vs) := Eq.trans (Eq.refl _) (Eq.refl _)
def turnA (tt : M Bool) (el : M D) (_ : Unit) (ρ : Rho) : Rs (Option D) := (tt ρ).bnd fun b ρ => match b with
  | true => (el ρ).bnd fun z ρ => .ok (some z) ρ
  | false => .ok none ρ
def turnB (el : M D) (b : Bool) (ρ : Rho) : Rs (Option D) := match b with
  | true => (el ρ).bnd fun z ρ => .ok (some z) ρ
  | false => .ok none ρ
def someK (z : D) (ρ : Rho) : Rs (Option D) := .ok (some z) ρ
theorem turnA_r {u : Unit} : turnA tt el u ρ = (tt ρ).bnd (turnB el) := Eq.trans (Eq.refl _) (Eq.refl _)
theorem turnB_t : turnB el true ρ = (el ρ).bnd someK := Eq.trans (Eq.refl _) (Eq.refl _)
theorem turnB_f : turnB el false ρ = .ok none ρ := Eq.trans (Eq.refl _) (Eq.refl _)
theorem someK_r {z : D} : someK z ρ = .ok (some z) ρ := Eq.trans (Eq.refl _) (Eq.refl _)
theorem turn_r {d : D} : turnM bnd tt el vs d ρ = endT ρ vs ((bnd d (wipeR ρ vs)).bnd (turnA tt el)) := by
  have e : (bnd d >>= fun _ => tt >>= fun b => if b then el >>= fun z => M.ret (some z) else M.ret none) (wipeR ρ vs) = (bnd d (wipeR ρ vs)).bnd (turnA tt el) := by
    rw [bind_r]
    congr 1
    funext u ρ1
    rw [bind_r]
    unfold turnA
    congr 1
    funext b ρ2
    cases b with
    | false => rfl
    | true => exact bind_r
  unfold turnM
  rw [e]
  unfold endT
  generalize (bnd d (wipeR ρ vs)).bnd _ = r
  cases r <;> rfl
/-- the turns over known items -/
def lcL (bnd : D → M Unit) (tt : M Bool) (el : M D) (vs : List Nat) (ds : List D) (ρ : Rho) : Rs O := (lcLoop bnd tt el vs ds [] ρ).bnd fun out ρ2 => .ok (.lst out) ρ2
theorem lc_r : lcM src bnd tt el vs ρ = (src ρ).bnd (lcL bnd tt el vs) := by
  unfold lcM lcL
  rw [bind_r]
  congr 1
theorem lcLoop_map {f : β → D} (r : β → Option D) : ∀ (xs : List β) (acc : List D), (∀ x ∈ xs, turnM bnd tt el vs (f x) ρ = .ok (r x) ρ) → acc.length + xs.length < sizeLine → lcLoop bnd tt el vs (xs.map f) acc ρ = .ok (acc ++ xs.filterMap r) ρ
  | [], acc, _, _ => by simp [lcLoop, M.ret]
  | x :: xs, acc, hs, hz => by
    rw [List.length_cons] at hz
    rw [List.map_cons]
    simp only [lcLoop]
    rw [if_pos (by omega), bnd_ok (hs x List.mem_cons_self), lcLoop_map r xs _ (fun y hy => hs y (List.mem_cons_of_mem _ hy)) (by cases r x <;> simp [addO] <;> omega), List.filterMap_cons]
    cases r x with
    | none => rfl
    | some z => simp [addO]
theorem lcL_map {f : β → D} {xs : List β} {r : β → Option D} (hs : ∀ x ∈ xs, turnM bnd tt el vs (f x) ρ = .ok (r x) ρ) (hz : xs.length < 100000) : lcL bnd tt el vs (xs.map f) ρ = .ok (.lst (xs.filterMap r)) ρ := by
  unfold lcL
  rw [lcLoop_map r xs [] hs (by simpa using lt_size hz), Rs.bnd_ok]
  rfl
theorem lcL_mapS {f : β → D} {xs : List β} {r : β → D} (hs : ∀ x ∈ xs, turnM bnd tt el vs (f x) ρ = .ok (some (r x)) ρ) (hz : xs.length < 100000) : lcL bnd tt el vs (xs.map f) ρ = .ok (.lst (xs.map r)) ρ := by
  rw [lcL_map (r := fun x => some (r x)) hs hz, List.filterMap_eq_map']
theorem lcL_mapF {f : β → D} {xs : List β} {p : β → Bool} {r : β → D} (hs : ∀ x ∈ xs, turnM bnd tt el vs (f x) ρ = .ok (if p x = true then some (r x) else none) ρ) (hz : xs.length < 100000) : lcL bnd tt el vs (xs.map f) ρ = .ok (.lst ((xs.filter p).map r)) ρ := by
  rw [lcL_map (r := fun x => if p x then some (r x) else none) hs hz]
  congr 2
  clear hs hz
  induction xs with
  | nil => rfl
  | cons x xs ih =>
    rw [List.filterMap_cons, List.filter_cons, ih]
    cases p x <;> simp
/-- turns by an invariant -/
theorem lcL_inv {ds : List D} (J : Nat → List D → Rho → Prop) (h0 : J 0 [] ρ) (hz : ds.length < 100000)
    (hs : ∀ i d acc ρ, ds[i]? = some d → J i acc ρ → ∃ r ρ', turnM bnd tt el vs d ρ = .ok r ρ' ∧ J (i + 1) (addO acc r) ρ') : ∃ out ρ', lcL bnd tt el vs ds ρ = .ok (.lst out) ρ' ∧ J ds.length out ρ' := by
  have key : ∀ (n i : Nat) (acc : List D) (ρ : Rho), n = ds.length - i → i ≤ ds.length → acc.length ≤ i → J i acc ρ → ∃ out ρ', lcLoop bnd tt el vs (ds.drop i) acc ρ = .ok out ρ' ∧ J ds.length out ρ' := by
    intro n
    induction n with
    | zero =>
      intro i acc ρ h1 h2 h3 h4
      have e : i = ds.length := by omega
      subst e
      rw [List.drop_length]
      exact ⟨acc, ρ, rfl, h4⟩
    | succ n ih =>
      intro i acc ρ h1 h2 h3 h4
      have hi : i < ds.length := by omega
      obtain ⟨r, ρ', e, h5⟩ := hs i _ acc ρ (List.getElem?_eq_getElem hi) h4
      rw [List.drop_eq_getElem_cons hi]
      simp only [lcLoop]
      have hl := lt_size hz
      rw [if_pos (by omega), bnd_ok e]
      exact ih (i + 1) (addO acc r) ρ' (by omega) (by omega) (by cases r <;> simp [addO] <;> omega) h5
  obtain ⟨out, ρ', e, h⟩ := key ds.length 0 [] ρ (by omega) (Nat.zero_le _) (Nat.le_refl _) h0
  refine ⟨out, ρ', ?_, h⟩
  unfold lcL
  rw [List.drop_zero] at e
  rw [e, Rs.bnd_ok]
end
section
variable {β : Type} {bnd : D → M Unit} {body : M Out} {src : M (List D)} {ρ : Rho}
def loopF (bnd : D → M Unit) (body : M Out) (ds : List D) (ρ : Rho) : Rs Out := loopS bnd body ds ρ
theorem loopF_r {ds : List D} : loopF bnd body ds ρ = loopS bnd body ds ρ := Eq.trans (Eq.refl _) (Eq.refl _)
theorem for_r : forS src bnd body ρ = (src ρ).bnd (loopF bnd body) := by
  unfold forS
  rw [bind_r]
  rfl
theorem loop_nil : loopS bnd body [] ρ = .ok .nx ρ := Eq.trans (Eq.refl _) (Eq.refl _)
def nextL (rest : Rho → Rs Out) (o : Out) (ρ : Rho) : Rs Out := match o with
  | .nx => rest ρ
  | .ct => rest ρ
  | .bk => .ok .nx ρ
  | .rt d => .ok (.rt d) ρ
  | .rn i => .ok (.rn i) ρ
theorem nextL_nx {rest : Rho → Rs Out} : nextL rest .nx ρ = rest ρ := Eq.trans (Eq.refl _) (Eq.refl _)
theorem nextL_ct {rest : Rho → Rs Out} : nextL rest .ct ρ = rest ρ := Eq.trans (Eq.refl _) (Eq.refl _)
theorem nextL_bk {rest : Rho → Rs Out} : nextL rest .bk ρ = .ok .nx ρ := Eq.trans (Eq.refl _) (Eq.refl _)
theorem nextL_rt {rest : Rho → Rs Out} {d : D} : nextL rest (.rt d) ρ = .ok (.rt d) ρ := Eq.trans (Eq.refl _) (Eq.refl _)
def loopK (body : M Out) (rest : Rho → Rs Out) (_ : Unit) (ρ : Rho) : Rs Out := (body ρ).bnd (nextL rest)
theorem loop_cons {d : D} {ds : List D} : loopS bnd body (d :: ds) ρ = (bnd d ρ).bnd (loopK body (loopS bnd body ds)) := by
  show (bnd d >>= _) ρ = _
  rw [bind_r]
  congr 1
  funext _ ρ1
  unfold loopK
  rw [bind_r]
  congr 1
  funext o ρ2
  cases o <;> rfl
theorem loopK_r {rest : Rho → Rs Out} {u : Unit} : loopK body rest u ρ = (body ρ).bnd (nextL rest) := Eq.trans (Eq.refl _) (Eq.refl _)
def goOn (o : Out) (ρ : Rho) : Rs Out := match o with
  | .ct => .ok .nx ρ
  | o => .ok o ρ
theorem goOn_nx : goOn .nx ρ = .ok .nx ρ := Eq.trans (Eq.refl _) (Eq.refl _)
theorem goOn_ct : goOn .ct ρ = .ok .nx ρ := Eq.trans (Eq.refl _) (Eq.refl _)
theorem goOn_bk : goOn .bk ρ = .ok .bk ρ := Eq.trans (Eq.refl _) (Eq.refl _)
theorem goOn_rt {d : D} : goOn (.rt d) ρ = .ok (.rt d) ρ := Eq.trans (Eq.refl _) (Eq.refl _)
def bodyK (body : M Out) (_ : Unit) (ρ : Rho) : Rs Out := (body ρ).bnd goOn
theorem bodyK_r {u : Unit} : bodyK body u ρ = (body ρ).bnd goOn := Eq.trans (Eq.refl _) (Eq.refl _)
/-- one turn of a for -/
def turnF (bnd : D → M Unit) (body : M Out) (d : D) (ρ : Rho) : Rs Out := (bnd d ρ).bnd (bodyK body)
theorem turnF_r {d : D} : turnF bnd body d ρ = (bnd d ρ).bnd (bodyK body) := Eq.trans (Eq.refl _) (Eq.refl _)
theorem loop_turn {d : D} {ds : List D} {ρ1 : Rho} (h : turnF bnd body d ρ = .ok .nx ρ1) : loopS bnd body (d :: ds) ρ = loopS bnd body ds ρ1 := by
  rw [loop_cons]
  rw [turnF_r] at h
  cases e : bnd d ρ with
  | no => rw [e] at h; cases h
  | ex x ρ2 => rw [e] at h; cases h
  | ok u ρ2 =>
    rw [e, Rs.bnd_ok] at h
    rw [Rs.bnd_ok]
    unfold bodyK at h
    unfold loopK
    cases e2 : body ρ2 with
    | no => rw [e2] at h; cases h
    | ex x ρ3 => rw [e2] at h; cases h
    | ok o ρ3 =>
      rw [e2, Rs.bnd_ok] at h
      rw [Rs.bnd_ok]
      cases o <;> cases h <;> rfl
/-- a for by an invariant -/
theorem loop_inv {ds : List D} (J : Nat → Rho → Prop) (h0 : J 0 ρ) (hs : ∀ i d ρ, ds[i]? = some d → J i ρ → ∃ ρ', turnF bnd body d ρ = .ok .nx ρ' ∧ J (i + 1) ρ') : ∃ ρ', loopS bnd body ds ρ = .ok .nx ρ' ∧ J ds.length ρ' := by
  have key : ∀ (n i : Nat) (ρ : Rho), n = ds.length - i → i ≤ ds.length → J i ρ → ∃ ρ', loopS bnd body (ds.drop i) ρ = .ok .nx ρ' ∧ J ds.length ρ' := by
    intro n
    induction n with
    | zero =>
      intro i ρ h1 h2 h3
      have e : i = ds.length := by omega
      subst e
      rw [List.drop_length]
      exact ⟨ρ, rfl, h3⟩
    | succ n ih =>
      intro i ρ h1 h2 h3
      have hi : i < ds.length := by omega
      obtain ⟨ρ', e, h5⟩ := hs i _ ρ (List.getElem?_eq_getElem hi) h3
      rw [List.drop_eq_getElem_cons hi, loop_turn e]
      exact ih (i + 1) ρ' (by omega) (by omega) h5
  have := key ds.length 0 ρ (by omega) (Nat.zero_le _) h0
  simpa using this
end
section
variable {β : Type} {bnd bnd1 : D → M Unit} {tt tt1 : M Bool} {el : M D} {vs vs1 : List Nat} {src src1 : M (List D)} {ρ : Rho}
def turn2A (tt : M Bool) (src1 : M (List D)) (bnd1 : D → M Unit) (tt1 : M Bool) (el : M D) (vs1 : List Nat) (acc : List D) (_ : Unit) (ρ : Rho) : Rs (List D) := (tt ρ).bnd fun b ρ => match b with
  | true => (src1 ρ).bnd fun ds1 ρ => lcLoop bnd1 tt1 el vs1 ds1 acc ρ
  | false => .ok acc ρ
def turn2B (src1 : M (List D)) (bnd1 : D → M Unit) (tt1 : M Bool) (el : M D) (vs1 : List Nat) (acc : List D) (b : Bool) (ρ : Rho) : Rs (List D) := match b with
  | true => (src1 ρ).bnd fun ds1 ρ => lcLoop bnd1 tt1 el vs1 ds1 acc ρ
  | false => .ok acc ρ
def lcC (bnd1 : D → M Unit) (tt1 : M Bool) (el : M D) (vs1 : List Nat) (acc ds : List D) (ρ : Rho) : Rs (List D) := lcLoop bnd1 tt1 el vs1 ds acc ρ
theorem turn2A_r {u : Unit} {acc : List D} : turn2A tt src1 bnd1 tt1 el vs1 acc u ρ = (tt ρ).bnd (turn2B src1 bnd1 tt1 el vs1 acc) := Eq.trans (Eq.refl _) (Eq.refl _)
theorem turn2B_t {acc : List D} : turn2B src1 bnd1 tt1 el vs1 acc true ρ = (src1 ρ).bnd (lcC bnd1 tt1 el vs1 acc) := Eq.trans (Eq.refl _) (Eq.refl _)
theorem turn2B_f {acc : List D} : turn2B src1 bnd1 tt1 el vs1 acc false ρ = .ok acc ρ := Eq.trans (Eq.refl _) (Eq.refl _)
theorem turn2_r {d : D} {acc : List D} : turn2 bnd tt src1 bnd1 tt1 el vs vs1 d acc ρ = endT ρ vs ((bnd d (wipeR ρ vs)).bnd (turn2A tt src1 bnd1 tt1 el vs1 acc)) := by
  have e : (bnd d >>= fun _ => tt >>= fun b => if b then src1 >>= fun ds1 => lcLoop bnd1 tt1 el vs1 ds1 acc else M.ret acc) (wipeR ρ vs) = (bnd d (wipeR ρ vs)).bnd (turn2A tt src1 bnd1 tt1 el vs1 acc) := by
    rw [bind_r]
    congr 1
    funext u ρ1
    rw [bind_r]
    unfold turn2A
    congr 1
    funext b ρ2
    cases b with
    | false => rfl
    | true => exact bind_r
  unfold turn2
  rw [e]
  unfold endT
  generalize (bnd d (wipeR ρ vs)).bnd _ = r
  cases r <;> rfl
def lc2L (bnd : D → M Unit) (tt : M Bool) (src1 : M (List D)) (bnd1 : D → M Unit) (tt1 : M Bool) (el : M D) (vs vs1 : List Nat) (ds : List D) (ρ : Rho) : Rs O := (lc2Loop bnd tt src1 bnd1 tt1 el vs vs1 ds [] ρ).bnd fun out ρ2 => .ok (.lst out) ρ2
theorem lc2_r : lc2M src bnd tt src1 bnd1 tt1 el vs vs1 ρ = (src ρ).bnd (lc2L bnd tt src1 bnd1 tt1 el vs vs1) := by
  unfold lc2M lc2L
  rw [bind_r]
  congr 1
end
section
variable {β : Type} {bnd : D → M Unit} {tt : M Bool} {el : M D} {vs : List Nat} {src : M (List D)} {ρ : Rho}
def ssL (bnd : D → M Unit) (tt : M Bool) (el : M D) (vs : List Nat) (ds : List D) (ρ : Rho) : Rs O := (lcLoop bnd tt el vs ds [] ρ).bnd fun out ρ2 => optR (fewI out) ρ2
theorem ss_r : ssM src bnd tt el vs ρ = (src ρ).bnd (ssL bnd tt el vs) := by
  unfold ssM ssL
  rw [bind_r]
  congr 1
  funext ds ρ1
  rw [bind_r]
  simp only [opt_f]
theorem ints_map' (ns : List Int) : D.ints (ns.map D.int) = some ns := ints_of_map ns
theorem ssL_map {f : β → D} {xs : List β} {p : β → Bool} {r : β → Int} (hs : ∀ x ∈ xs, turnM bnd tt el vs (f x) ρ = .ok (if p x = true then some (.int (r x)) else none) ρ) (hz : xs.length < 100000) (hf : ((xs.filter p).map r).length < 63) : ssL bnd tt el vs (xs.map f) ρ = .ok (.lst ((sortU ((xs.filter p).map r)).map D.int)) ρ := by
  have e2 : xs.filterMap (fun x => if p x then some (D.int (r x)) else none) = ((xs.filter p).map r).map D.int := by
    clear hs hz hf
    induction xs with
    | nil => rfl
    | cons x xs ih =>
      rw [List.filterMap_cons, List.filter_cons, ih]
      cases p x <;> simp
  unfold ssL
  rw [lcLoop_map (fun x => if p x then some (.int (r x)) else none) xs [] hs (by simpa using lt_size hz), Rs.bnd_ok, e2, List.nil_append]
  unfold fewI
  rw [ints_map']
  simp only [Option.bind_some, if_pos hf, optR_some]
end
def Sat {α : Type} (r : Rs α) (Q : α → Rho → Prop) : Prop := match r with
  | .ok a ρ => Q a ρ
  | _ => False
section
variable {α β : Type} {r : Rs α} {a : α} {ρ : Rho} {g : α → Rho → Rs β} {P : α → Rho → Prop} {Q : β → Rho → Prop}
theorem Sat.step (h : r = .ok a ρ) (k : Sat (g a ρ) Q) : Sat (r.bnd g) Q := by rw [h]; exact k
theorem Sat.stepE {τ : Type} {m : τ → Rho} (h : ∃ j, r = .ok a (m j)) (k : ∀ j, Sat (g a (m j)) Q) : Sat (r.bnd g) Q := by
  obtain ⟨j, h⟩ := h
  rw [h]
  exact k j
theorem Sat.stepI (h : Sat r P) (k : ∀ a ρ, P a ρ → Sat (g a ρ) Q) : Sat (r.bnd g) Q := by
  cases r with
  | no => exact h.elim
  | ex e ρ => exact h.elim
  | ok a ρ => exact k a ρ h
theorem Sat.imp {P' : α → Rho → Prop} (h : Sat r P) (k : ∀ a ρ, P a ρ → P' a ρ) : Sat r P' := by
  cases r with
  | no => exact h.elim
  | ex e ρ => exact h.elim
  | ok a ρ => exact k a ρ h
theorem Sat.get (h : Sat r P) : ∃ a ρ, r = .ok a ρ ∧ P a ρ := by
  cases r with
  | no => exact h.elim
  | ex e ρ => exact h.elim
  | ok a ρ => exact ⟨a, ρ, rfl, h⟩
theorem Sat.of_eq (h : r = .ok a ρ) (k : P a ρ) : Sat r P := by rw [h]; exact k
end
theorem run_sat {n k : Nat} {h : M Out} {ds : List D} {g g' : Cells} {l : List (Option Slot)} {d : D} (hl : ds.length = k) (hs : vals ds ++ List.replicate (n - ds.length) none = l) (e : Sat (h ⟨l, g⟩) fun o ρ => o = .rt d ∧ ρ.g = g') : runB n k h ds g = .ok d g' := by
  obtain ⟨o, ρ, e2, rfl, rfl⟩ := e.get
  exact run_rt hl hs e2
theorem run_satX {ι : Type} {n k : Nat} {h : M Out} {ds : List D} {g : Cells} {l : List (Option Slot)} {P : ι → Prop} {f : ι → D} {G : ι → Cells} (hl : ds.length = k) (hs : vals ds ++ List.replicate (n - ds.length) none = l) (e : Sat (h ⟨l, g⟩) fun o ρ => ∃ x, P x ∧ o = .rt (f x) ∧ ρ.g = G x) : ∃ x, P x ∧ runB n k h ds g = .ok (f x) (G x) := by
  obtain ⟨o, ρ, e2, x, hp, rfl, hg⟩ := e.get
  exact ⟨x, hp, run_rt (l' := ρ.l) hl hs (by rw [← hg]; exact e2)⟩
section
variable {β σ τ : Type} {bnd : D → M Unit} {body : M Out}
/-- a for whose state is a function of what went before, besides slots of no account -/
theorem loop_sat {f : β → D} (mk : σ → τ → Rho) (st : σ → β → σ) (I : σ → Prop) : ∀ (xs : List β) (s : σ) (j : τ), I s → (∀ s j x, x ∈ xs → I s → Sat (turnF bnd body (f x) (mk s j)) (fun o ρ => o = .nx ∧ ∃ j', ρ = mk (st s x) j') ∧ I (st s x)) → ∃ j', loopS bnd body (xs.map f) (mk s j) = .ok .nx (mk (xs.foldl st s) j')
  | [], s, j, _, _ => ⟨j, loop_nil⟩
  | x :: xs, s, j, h, hs => by
    obtain ⟨e, h2⟩ := hs s j x List.mem_cons_self h
    obtain ⟨o, ρ, e, rfl, j', rfl⟩ := e.get
    rw [List.map_cons, loop_turn e]
    exact loop_sat mk st I xs (st s x) j' h2 fun s j y hy => hs s j y (List.mem_cons_of_mem _ hy)
/-- a for by an invariant -/
theorem loop_satJ {ds : List D} {ρ : Rho} (J : Nat → Rho → Prop) (h0 : J 0 ρ) (hs : ∀ i d ρ, ds[i]? = some d → J i ρ → Sat (turnF bnd body d ρ) fun o ρ' => o = .nx ∧ J (i + 1) ρ') : Sat (loopS bnd body ds ρ) fun o ρ' => o = .nx ∧ J ds.length ρ' := by
  obtain ⟨ρ', e, h⟩ := loop_inv J h0 fun i d ρ hd hJ => by
    obtain ⟨o, ρ', e, rfl, h⟩ := (hs i d ρ hd hJ).get
    exact ⟨ρ', e, h⟩
  exact Sat.of_eq e ⟨rfl, h⟩
end
theorem lcL_satJ {bnd : D → M Unit} {tt : M Bool} {el : M D} {vs : List Nat} {ρ : Rho} {ds : List D} (J : Nat → List D → Rho → Prop) (h0 : J 0 [] ρ) (hz : ds.length < 100000)
    (hs : ∀ i d acc ρ, ds[i]? = some d → J i acc ρ → Sat (turnM bnd tt el vs d ρ) fun r ρ' => J (i + 1) (addO acc r) ρ') : Sat (lcL bnd tt el vs ds ρ) fun o ρ' => ∃ out, o = .lst out ∧ J ds.length out ρ' := by
  obtain ⟨out, ρ', e, h⟩ := lcL_inv J h0 hz fun i d acc ρ hd hJ => by
    obtain ⟨r, ρ', e, h⟩ := (hs i d acc ρ hd hJ).get
    exact ⟨r, ρ', e, h⟩
  exact Sat.of_eq e ⟨out, rfl, h⟩
section
variable {t : M Bool} {b : M Out}
def whR (J : Nat → Rho → Prop) (Q : Out → Rho → Prop) (m : Nat) (o : Out) (ρ : Rho) : Prop := match o with
  | .nx => ∃ m', m' < m ∧ J m' ρ
  | .ct => ∃ m', m' < m ∧ J m' ρ
  | .bk => Q .nx ρ
  | .rt d => Q (.rt d) ρ
  | .rn i => Q (.rn i) ρ
def whQ (b : M Out) (J : Nat → Rho → Prop) (Q : Out → Rho → Prop) (m : Nat) (c : Bool) (ρ : Rho) : Prop := match c with
  | true => Sat (b ρ) (whR J Q m)
  | false => Q .nx ρ
section
variable {J : Nat → Rho → Prop} {Q : Out → Rho → Prop} {m : Nat} {ρ : Rho}
theorem whQ_t : Sat (.ok true ρ) (whQ b J Q m) = Sat (b ρ) (whR J Q m) := Eq.trans (Eq.refl _) (Eq.refl _)
theorem whQ_f : Sat (.ok false ρ) (whQ b J Q m) = Q .nx ρ := Eq.trans (Eq.refl _) (Eq.refl _)
theorem whR_nx : Sat (.ok .nx ρ) (whR J Q m) = ∃ m', m' < m ∧ J m' ρ := Eq.trans (Eq.refl _) (Eq.refl _)
end
end
end Nc
namespace Nc
open PySem PySem.Spec PyProof.Rows L2
abbrev dN (n : Nat) : D := .int n
abbrev vN (n : Nat) : Option Slot := some (.val (dN n))
abbrev vD (d : D) : Option Slot := some (.val d)
abbrev dB (b : Bool) : D := .bl b
abbrev dRel (rows : List Nat) : D := .tup (rows.map dN)
abbrev dPair (p : Nat × Nat) : D := .tup [dN p.1, dN p.2]
section
variable {a b : Nat}
theorem add_nn : addD (dN a) (dN b) = some (dN (a + b)) := by
  simp only [addD, dN, Int.natCast_add]
theorem sub_nn (h : b ≤ a) : subD (dN a) (dN b) = some (dN (a - b)) := by
  simp only [subD, i2, if_true, dN, Int.ofNat_sub h]
theorem mul_nn (h : b < 10 ^ 18) : mulD (dN a) (dN b) = some (dN (a * b)) := by
  have : small64i (b : Int) = true := by
    unfold small64i
    rw [Bool.and_eq_true, decide_eq_true_eq, decide_eq_true_eq]
    omega
  simp only [mulD, this, Bool.or_true, if_true, dN, Int.natCast_mul]
theorem lt_nn : ltD (dN a) (dN b) = some (dB (decide (a < b))) := by
  simp only [ltD, cmpI, Int.ofNat_lt]
theorem le_nn : leD (dN a) (dN b) = some (dB (decide (a ≤ b))) := by
  simp only [leD, cmpI, Int.ofNat_le]
theorem gt_nn : gtD (dN a) (dN b) = some (dB (decide (b < a))) := by
  simp only [gtD, cmpI, Int.ofNat_lt]
theorem ge_nn : geD (dN a) (dN b) = some (dB (decide (b ≤ a))) := by
  simp only [geD, cmpI, Int.ofNat_le]
theorem eq_nn : eqD (dN a) (dN b) = some (dB (decide (a = b))) := by
  simp only [eqD, eqB, eqS, Option.map_some, Int.ofNat_inj]
theorem ne_nn : neD (dN a) (dN b) = some (dB (!decide (a = b))) := by
  simp only [neD, eqB, eqS, Option.map_some, Int.ofNat_inj]
theorem powC_nn (h : b < 1000000) (h2 : a < 10 ^ 18) : powC (a : Int) (b : Int) = true := by
  unfold powC
  simp only [Bool.and_eq_true, decide_eq_true_eq, Int.natAbs_natCast]
  omega
theorem shl_nn (h : b < 1000000) (h2 : a < 10 ^ 18) : shlD (dN a) (dN b) = some (dN (a * 2 ^ b)) := by
  simp only [shlD, i2, powC_nn h h2, if_true, Int.toNat_natCast, Int.natCast_mul, Int.natCast_pow]
  rfl
theorem pow_nn (h : b < 1000000) (h2 : a < 10 ^ 18) : powD (dN a) (dN b) = some (dN (a ^ b)) := by
  simp only [powD, i2, powC_nn h h2, if_true, dN, Int.toNat_natCast, Int.natCast_pow]
theorem shr_nn : shrD (dN a) (dN b) = some (dN (a >>> b)) := by
  have c : decide ((0 : Int) ≤ (b : Int)) = true := decide_eq_true (by omega)
  simp only [shrD, i2, c, if_true, Int.toNat_natCast, Nat.shiftRight_eq_div_pow, dN]
  rw [Int.natCast_ediv, Int.natCast_pow]
  rfl
theorem and_nn : andD (dN a) (dN b) = some (dN (a &&& b)) := by
  simp only [andD, i2, if_true]
  rw [bitAnd_pp (by omega) (by omega), Int.toNat_natCast, Int.toNat_natCast]
theorem or_nn : orD (dN a) (dN b) = some (dN (a ||| b)) := by
  simp only [orD, i2, if_true]
  rw [Bits.bitOr_pp (by omega) (by omega), Int.toNat_natCast, Int.toNat_natCast]
theorem mod_nn (h : 0 < b) : modD (dN a) (dN b) = some (dN (a % b)) := by
  have c : decide ((0 : Int) < (b : Int)) = true := decide_eq_true (by omega)
  simp only [modD, i2, c, if_true, dN, Int.natCast_emod]
theorem log2_small {m : Nat} (h : m < 10 ^ 40) : m.log2 < 9000 := by
  rcases Nat.eq_zero_or_pos m with e | e
  · subst e
    decide
  · rw [Nat.log2_lt (by omega)]
    exact Nat.lt_trans h (Nat.lt_of_lt_of_le (by decide : (10 : Nat) ^ 40 < 2 ^ 200) (Nat.pow_le_pow_right (by omega) (by omega)))
theorem fdiv_nn (h : 0 < b) (h2 : b < 10 ^ 40) : fdivD (dN a) (dN b) = some (dN (a / b)) := by
  have c : (decide ((0 : Int) < (b : Int)) && decide ((b : Int).natAbs.log2 < 9000)) = true := by
    rw [Int.natAbs_natCast, decide_eq_true (log2_small h2), Bool.and_true]
    exact decide_eq_true (by omega)
  simp only [fdivD, i2, c, if_true, dN, Int.natCast_ediv]
theorem int_int {i : Int} : intD (.int i) = some (.int i) := Eq.trans (Eq.refl _) (Eq.refl _)
theorem rng1_n {n : Nat} (h : n < 1000000) : rng1 (dN n) = some ((List.range n).map dN) := by
  have : inR (n : Int) = true := by
    unfold inR
    rw [Bool.and_eq_true, decide_eq_true_eq, decide_eq_true_eq]
    omega
  simp only [rng1, this, if_true, Int.toNat_natCast]
  unfold rangeL
  simp only [Int.zero_add]
theorem rngO_n {n : Nat} (h : n ≤ 1000000) : rngO (dN n) = some (.lst ((List.range n).map dN)) := by
  have h1 : (decide ((0 : Int) ≤ (n : Int)) && decide ((n : Int) ≤ 1000000)) = true := by
    rw [Bool.and_eq_true, decide_eq_true_eq, decide_eq_true_eq]
    omega
  simp only [rngO, h1, if_true, Int.toNat_natCast]
  unfold rangeL
  simp only [Int.zero_add]
theorem rng2_n {m n : Nat} (h : m < 1000000) (h2 : n < 1000000) : rng2 (dN m) (dN n) = some ((List.range (n - m)).map fun k => dN (m + k)) := by
  have a1 : inR (n : Int) = true := by
    unfold inR
    rw [Bool.and_eq_true, decide_eq_true_eq, decide_eq_true_eq]
    omega
  have a2 : inR (m : Int) = true := by
    unfold inR
    rw [Bool.and_eq_true, decide_eq_true_eq, decide_eq_true_eq]
    omega
  simp only [rng2, a1, a2, Bool.and_self, if_true]
  have e : ((n : Int) - (m : Int)).toNat = n - m := by omega
  rw [e]
  unfold rangeL
  simp only [dN, Int.natCast_add]
end
section
variable {ds : List D}
theorem len_tup : lenD (.tup ds) = some (dN ds.length) := Eq.trans (Eq.refl _) (Eq.refl _)
theorem len_lst : lenD (.lst ds) = some (dN ds.length) := Eq.trans (Eq.refl _) (Eq.refl _)
theorem tuple_lst : tupleD (.lst ds) = some (.tup ds) := Eq.trans (Eq.refl _) (Eq.refl _)
theorem list_lst : listO (.lst ds) = some (.lst ds) := Eq.trans (Eq.refl _) (Eq.refl _)
theorem list_tup : listO (.tup ds) = some (.lst ds) := Eq.trans (Eq.refl _) (Eq.refl _)
theorem app_r {d : D} (h : ds.length < 100000) : appOp ds d = some (.non, ds ++ [d]) := if_pos (lt_size h)
theorem atI_n {α : Type} {xs : List α} {k : Nat} : atI xs (k : Int) = xs[k]? := by
  unfold atI ixN
  by_cases h : k < xs.length
  · rw [if_pos (by omega), if_pos (by simpa using h)]
    simp
  · rw [if_pos (by omega), if_neg (by simpa using h), List.getElem?_eq_none (by omega)]
    rfl
theorem ixt_n {k : Nat} : ixD (.tup ds) (dN k) = ds[k]? := atI_n
theorem ixl_n {k : Nat} : ixD (.lst ds) (dN k) = ds[k]? := atI_n
theorem ixN_n {n k : Nat} (h : k < n) : ixN n (k : Int) = some k := by
  unfold ixN
  rw [if_pos (by omega), if_pos (by simpa using h), Int.toNat_natCast]
theorem setIx_n {k : Nat} {d : D} (h : k < ds.length) : setIx ds (dN k) d = some (ds.set k d) := by
  simp only [setIx, ixN_n h, Option.map_some]
end
theorem ints_nats (ns : List Nat) : D.ints (ns.map dN) = some (ns.map fun (n : Nat) => (n : Int)) := by
  have := ints_of_map (ns.map fun n : Nat => (n : Int))
  rw [List.map_map] at this
  exact this
theorem sum_nats (ns : List Nat) : sumD (.lst (ns.map dN)) = some (dN ns.sum) := by
  simp only [sumD, ints_nats, Option.map_some]
  congr 2
  induction ns with
  | nil => rfl
  | cons n ns ih =>
    rw [List.map_cons, List.sum_cons, List.sum_cons, Int.natCast_add, ih]
section
variable {α β : Type} {a b : α} {l l' : List α} {f : α → β} {n : Nat}
theorem zmap_cons : (a :: l).map f = f a :: l.map f := List.map_cons
theorem zmap_nil : ([] : List α).map f = [] := List.map_nil
theorem zlength_cons : (a :: l).length = l.length + 1 := List.length_cons
theorem zlength_nil : ([] : List α).length = 0 := List.length_nil
theorem zcons_append : (a :: l) ++ l' = a :: (l ++ l') := List.cons_append
theorem znil_append : [] ++ l = l := List.nil_append l
theorem zget_zero : (a :: l)[0]? = some a := List.getElem?_cons_zero
theorem zget_succ : (a :: l)[n + 1]? = l[n]? := List.getElem?_cons_succ
theorem zset_zero : (a :: l).set 0 b = b :: l := List.set_cons_zero
theorem zset_succ : (a :: l).set (n + 1) b = a :: l.set n b := List.set_cons_succ
theorem zfoldr_cons {k : α → β → β} {z : β} : (a :: l).foldr k z = k a (l.foldr k z) := List.foldr_cons
theorem zfoldr_nil {k : α → β → β} {z : β} : ([] : List α).foldr k z = z := List.foldr_nil
theorem zbind_some {k : α → Option β} : (some a).bind k = k a := Option.bind_some a k
theorem zmap_some : (some a).map f = some (f a) := Option.map_some _ _
theorem zcond_true : cond true a b = a := cond_true a b
theorem zcond_false : cond false a b = b := cond_false a b
end
def EV1 := And.intro @thenK_r (And.intro @Rs.bnd_ok (And.intro @Rs.bnd_ex (And.intro @Rs.bnd_assoc (And.intro @optR_some (And.intro @Rho.get_mk (And.intro @Rho.set_mk (And.intro @Rho.g_mk (And.intro @Rho.l_mk (And.intro @var_r (And.intro @slotR_val (And.intro @slotR_own (And.intro @varK_r @slotK_some))))))))))))
def EV2 := And.intro @dat_s (And.intro @dat_d (And.intro @datR_val (And.intro @datR_own (And.intro @lookG_non (And.intro @lookG_bl (And.intro @lookG_int (And.intro @lookG_str (And.intro @lookG_tup (And.intro @lookG_lst (And.intro @lookG_dk (And.intro @lookG_dt (And.intro @lookG_ob @lookG_ptr))))))))))))
def EV3 := And.intro @frozen_lst (And.intro @frozen_dk (And.intro @frozen_dt (And.intro @frozen_ob (And.intro @ret_r (And.intro @nextS_nx (And.intro @nextS_rt (And.intro @nextS_rn (And.intro @nextS_bk (And.intro @nextS_ct (And.intro @then_r (And.intro @ifK_t (And.intro @ifK_f @if_r))))))))))))
def EV4 := And.intro @setK_r (And.intro @set_r (And.intro @setNK_r (And.intro @setN_r (And.intro @retK_r (And.intro @retS_r (And.intro @nxK_r (And.intro @drop_r (And.intro @opdK_r (And.intro @opd_r (And.intro @frzK_r (And.intro @frz_r (And.intro @cellK_r @cell_r))))))))))))
def EV5 := And.intro @opK_r (And.intro @b2A_r (And.intro @b2_r (And.intro @b2N_r (And.intro @neg_r (And.intro @k1A_r (And.intro @k1_r (And.intro @k2A_r (And.intro @k2B_r (And.intro @k2C_r (And.intro @k2_r (And.intro @slA_r (And.intro @slB_r @slC_r))))))))))))
def EV6 := And.intro @sl_r (And.intro @asSome_int (And.intro @part_r (And.intro @tst_r (And.intro @andK_t (And.intro @andK_f (And.intro @and_r (And.intro @orK_t (And.intro @orK_f (And.intro @or_r (And.intro @notK_r (And.intro @not_r (And.intro @andVK_t @andVK_f))))))))))))
def EV7 := And.intro @andV_r (And.intro @orVK_t (And.intro @orVK_f (And.intro @orV_r (And.intro @asNB_bl (And.intro @notV_r (And.intro @asB_bl (And.intro @consK_r (And.intro @consL_r (And.intro @cons_r (And.intro @lst_r (And.intro @tup_r (And.intro @refS_r @slotF_own))))))))))))
def EV8 := And.intro @slotF_ptr (And.intro @refD_r (And.intro @asRef_ptr (And.intro @getR_sm (And.intro @ownR_own (And.intro @getR_cm (And.intro @setR_s (And.intro @setR_c (And.intro @chkO_r (And.intro @updK_r (And.intro @updO_r (And.intro @isL_lst (And.intro @opL_lst @lm1A_r))))))))))))
def EV9 := And.intro @lm1B_r (And.intro @lm1C_r (And.intro @lm1_r (And.intro @lm0A_r (And.intro @lm0_r (And.intro @itA_r (And.intro @itB_r (And.intro @itC_r (And.intro @itD_r (And.intro @item_r (And.intro @seqI_r (And.intro @items_lst (And.intro @items_tup @items_str))))))))))))
def EV10 := And.intro @rngI_r (And.intro @rngI2_r (And.intro @zipI_r (And.intro @bndN_r (And.intro @bndT_r (And.intro @bndQ_r (And.intro @bndS_nil (And.intro @bndS_cons (And.intro @asgK_r (And.intro @asg_r (And.intro @parR_2 (And.intro @par_r (And.intro @callK_r @call_r))))))))))))
def EV11 := And.intro @callNK_r (And.intro @callN_r (And.intro @endC_ok (And.intro @endC_new (And.intro @endN_new (And.intro @wipe_r (And.intro @endT_ok (And.intro @mix_r (And.intro @mixG_nil (And.intro @mixG_cons (And.intro @inL_nil (And.intro @inL_cons (And.intro @zcond_true @zcond_false))))))))))))
def EV12 := And.intro @Bool.or_false (And.intro @Bool.or_true (And.intro @Bool.true_or (And.intro @Bool.false_or (And.intro @turnA_r (And.intro @turnB_t (And.intro @turnB_f (And.intro @someK_r (And.intro @turn_r (And.intro @lc_r (And.intro @for_r (And.intro @nextL_nx (And.intro @nextL_ct @nextL_bk))))))))))))
def EV13 := And.intro @nextL_rt (And.intro @loopK_r (And.intro @goOn_nx (And.intro @goOn_ct (And.intro @goOn_bk (And.intro @goOn_rt (And.intro @bodyK_r (And.intro @turnF_r (And.intro @turn2A_r (And.intro @turn2B_t (And.intro @turn2B_f (And.intro @turn2_r (And.intro @lc2_r @ss_r))))))))))))
def EV14 := And.intro @zmap_cons (And.intro @zmap_nil (And.intro @zlength_cons (And.intro @zlength_nil (And.intro @zcons_append (And.intro @znil_append (And.intro @zget_zero (And.intro @zget_succ (And.intro @zset_zero (And.intro @zset_succ (And.intro @zfoldr_cons @zfoldr_nil))))))))))
def EV15 := And.intro @zbind_some (And.intro @zmap_some (And.intro @decide_true (And.intro @decide_false (And.intro @Bool.not_true @Bool.not_false))))
def EV16 := And.intro @listRng_r (And.intro @par3R_3 (And.intro @par3_r (And.intro @parNA_r (And.intro @parNK_r (And.intro @parN_r (And.intro @kwA_r (And.intro @kwB_r (And.intro @kw_r (And.intro @kwG_11 (And.intro @kwG_01 (And.intro @isLD_lst (And.intro @idxA_r (And.intro @idxB_r (And.intro @idx_r (And.intro @whQ_t (And.intro @whQ_f @whR_nx))))))))))))))))
theorem asI_n {k : Nat} : asI (dN k) = some (k : Int) := Eq.trans (Eq.refl _) (Eq.refl _)
def EV17 := And.intro @asI_n @loopF_r
def OP1 := And.intro @add_nn (And.intro @sub_nn (And.intro @mul_nn (And.intro @lt_nn (And.intro @le_nn (And.intro @gt_nn (And.intro @ge_nn (And.intro @eq_nn (And.intro @ne_nn (And.intro @shl_nn (And.intro @shr_nn (And.intro @and_nn (And.intro @or_nn @mod_nn))))))))))))
def OP2 := And.intro @fdiv_nn (And.intro @rng1_n (And.intro @rng2_n (And.intro @len_tup (And.intro @len_lst (And.intro @tuple_lst (And.intro @list_lst (And.intro @list_tup (And.intro @sizedL_r (And.intro @sizedT_r (And.intro @int_int (And.intro @app_r (And.intro @ixt_n @ixl_n))))))))))))
end Nc
namespace Nc
open PySem PySem.Spec PyProof.Rows L2
section
variable {ρ : Rho} {f fc : M D} {fo : M O} {fs : M (List Item)} {is : List Nat} {l : List (Option Slot)} {g : Cells}
def pgK (is : List Nat) (zs : List Item) (ρ : Rho) : Rs Out := setG is zs ρ
theorem parG_r : parG is fs ρ = (fs ρ).bnd (pgK is) := bind_r
theorem slot_v {d : D} : (Item.v d).slot = some (.val d) := Eq.trans (Eq.refl _) (Eq.refl _)
theorem slot_n {o : O} : (Item.n o).slot = some (.own o) := Eq.trans (Eq.refl _) (Eq.refl _)
theorem setG_2 {i j : Nat} {a b : Item} : pgK [i, j] [a, b] ρ = .ok .nx ((ρ.set i a.slot).set j b.slot) := Eq.trans (Eq.refl _) (Eq.refl _)
theorem setG_3 {i j k : Nat} {a b c : Item} : pgK [i, j, k] [a, b, c] ρ = .ok .nx (((ρ.set i a.slot).set j b.slot).set k c.slot) := Eq.trans (Eq.refl _) (Eq.refl _)
theorem gNil_r : gNil ρ = .ok [] ρ := Eq.trans (Eq.refl _) (Eq.refl _)
def gVK (fs : M (List Item)) (d : D) (ρ : Rho) : Rs (List Item) := (fs ρ).bnd fun zs ρ => .ok (.v d :: zs) ρ
def gVL (d : D) (zs : List Item) (ρ : Rho) : Rs (List Item) := .ok (.v d :: zs) ρ
theorem gVK_r {d : D} : gVK fs d ρ = (fs ρ).bnd (gVL d) := Eq.trans (Eq.refl _) (Eq.refl _)
theorem gVL_r {d : D} {zs : List Item} : gVL d zs ρ = .ok (.v d :: zs) ρ := Eq.trans (Eq.refl _) (Eq.refl _)
theorem gV_r : gV f fs ρ = (f ρ).bnd (gVK fs) := by
  unfold gV
  rw [bind_r]
  congr 1
def gNK (fs : M (List Item)) (o : O) (ρ : Rho) : Rs (List Item) := (fs ρ).bnd fun zs ρ => .ok (.n o :: zs) ρ
def gNL (o : O) (zs : List Item) (ρ : Rho) : Rs (List Item) := .ok (.n o :: zs) ρ
theorem gNK_r {o : O} : gNK fs o ρ = (fs ρ).bnd (gNL o) := Eq.trans (Eq.refl _) (Eq.refl _)
theorem gNL_r {o : O} {zs : List Item} : gNL o zs ρ = .ok (.n o :: zs) ρ := Eq.trans (Eq.refl _) (Eq.refl _)
theorem gN_r : gN fo fs ρ = (fo ρ).bnd (gNK fs) := by
  unfold gN
  rw [bind_r]
  congr 1
def chC (opA opB : D → D → Option D) (fb fc : M D) (d : D) (ρ : Rho) : Rs D := (fb ρ).bnd fun e ρ => (optR (opA d e) ρ).bnd fun z ρ => chB opB fc e z ρ
def chE (opA opB : D → D → Option D) (fc : M D) (d e : D) (ρ : Rho) : Rs D := (optR (opA d e) ρ).bnd fun z ρ => chB opB fc e z ρ
def chF (opB : D → D → Option D) (fc : M D) (e z : D) (ρ : Rho) : Rs D := chB opB fc e z ρ
variable {opA opB : D → D → Option D} {fa fb : M D}
theorem chC_r {d : D} : chC opA opB fb fc d ρ = (fb ρ).bnd (chE opA opB fc d) := Eq.trans (Eq.refl _) (Eq.refl _)
theorem chE_r {d e : D} : chE opA opB fc d e ρ = (optR (opA d e) ρ).bnd (chF opB fc e) := Eq.trans (Eq.refl _) (Eq.refl _)
theorem chF_t {e : D} : chF opB fc e (.bl true) ρ = (fc ρ).bnd (opK (opB e)) := op_r
theorem chF_f {e : D} : chF opB fc e (.bl false) ρ = .ok (.bl false) ρ := Eq.trans (Eq.refl _) (Eq.refl _)
theorem ch_r : chM opA opB fa fb fc ρ = (fa ρ).bnd (chC opA opB fb fc) := by
  unfold chM
  rw [bind_r]
  congr 1
  funext d ρ1
  rw [bind_r]
  unfold chC
  congr 1
  funext e ρ2
  rw [bind_r, opt_r]
def endG (l : List (Option Slot)) : Rf → Rs D
  | .ok d g => .ok d ⟨l, g⟩
  | .new o g => .ok o.frozen ⟨l, g⟩
  | _ => .no
theorem endG_ok {d : D} : endG l (.ok d g) = .ok d ⟨l, g⟩ := Eq.trans (Eq.refl _) (Eq.refl _)
theorem endG_new {o : O} : endG l (.new o g) = .ok o.frozen ⟨l, g⟩ := Eq.trans (Eq.refl _) (Eq.refl _)
theorem endC_ex {e : Xn} : endC l (.ex e g) = .ex e ⟨l, g⟩ := Eq.trans (Eq.refl _) (Eq.refl _)
def lkB {α : Type} (op : D → Option α) (d : D) (ρ : Rho) : Rs α := (optR (look ρ d) ρ).bnd (opK op)
theorem lkB_r {α : Type} {op : D → Option α} {d : D} : lkB op d ⟨l, g⟩ = (optR (lookG g d) ⟨l, g⟩).bnd (opK op) := by
  unfold lkB
  rw [look_mk]
theorem getO_bnd {α β : Type} {op : D → Option α} {h : α → M β} {d : D} : (getO (.d d) >>= fun d0 => M.opt (op d0) >>= h) ρ = (lkB op d ρ).bnd h := by
  rw [bind_r, getO_r]
  show (optR (look ρ d) ρ).bnd _ = _
  refine Eq.trans ?_ Rs.bnd_assoc.symm
  congr 1
  funext d0 ρ1
  show (M.opt (op d0) >>= h) ρ1 = _
  rw [bind_r, opt_r]
  rfl
section
variable {C : Addr} {m : Str} {F : Fn} {as : M (List D)} {d : D} {u : Unit}
def getK (F : Fn) (d : D) (_ : Unit) (ρ : Rho) : Rs D := endG ρ.l (F [d] ρ.g)
theorem getK_r : getK F d u ⟨l, g⟩ = endG l (F [d] g) := Eq.trans (Eq.refl _) (Eq.refl _)
def propK (C : Addr) (F : Fn) (d : D) (ρ : Rho) : Rs D := (lkB (isObD C) d ρ).bnd (getK F d)
theorem propK_r : propK C F d ρ = (lkB (isObD C) d ρ).bnd (getK F d) := Eq.trans (Eq.refl _) (Eq.refl _)
theorem prop_r : propG C F f ρ = (f ρ).bnd (propK C F) := by
  unfold propG
  rw [bind_r]
  congr 1
  funext d ρ1
  rw [getO_bnd]
  unfold propK
  congr 1
theorem callF_r {ds : List D} : callF F ds ⟨l, g⟩ = endC l (F ds g) := by
  unfold callF endC
  cases F ds g <;> rfl
def meB (F : Fn) (d : D) (ds : List D) (ρ : Rho) : Rs D := callF F (d :: ds) ρ
theorem meB_r {ds : List D} : meB F d ds ⟨l, g⟩ = endC l (F (d :: ds) g) := callF_r
def meA (F : Fn) (as : M (List D)) (d : D) (_ : Unit) (ρ : Rho) : Rs D := (as ρ).bnd (meB F d)
theorem meA_r : meA F as d u ρ = (as ρ).bnd (meB F d) := Eq.trans (Eq.refl _) (Eq.refl _)
def meK (C : Addr) (m : Str) (F : Fn) (as : M (List D)) (d : D) (ρ : Rho) : Rs D := (lkB (slfD C m) d ρ).bnd (meA F as d)
theorem meK_r : meK C m F as d ρ = (lkB (slfD C m) d ρ).bnd (meA F as d) := Eq.trans (Eq.refl _) (Eq.refl _)
theorem meth_r : methM C m F f as ρ = (f ρ).bnd (meK C m F as) := by
  unfold methM
  rw [bind_r]
  congr 1
  funext d ρ1
  rw [getO_bnd]
  unfold meK
  congr 1
def coC (C : Addr) (F : Fn) (d : D) (ds : List D) (ρ : Rho) : Rs D := (lkB (isObD C) d ρ).bnd fun _ => callF F (d :: ds)
def coD (F : Fn) (d : D) (ds : List D) (_ : Unit) (ρ : Rho) : Rs D := callF F (d :: ds) ρ
theorem coD_r {ds : List D} : coD F d ds u ⟨l, g⟩ = endC l (F (d :: ds) g) := callF_r
theorem coC_r {ds : List D} : coC C F d ds ρ = (lkB (isObD C) d ρ).bnd (coD F d ds) := Eq.trans (Eq.refl _) (Eq.refl _)
def coB (C : Addr) (F : Fn) (as : M (List D)) (d : D) (_ : Unit) (ρ : Rho) : Rs D := (as ρ).bnd (coC C F d)
theorem coB_r : coB C F as d u ρ = (as ρ).bnd (coC C F d) := Eq.trans (Eq.refl _) (Eq.refl _)
def coA (C : Addr) (F : Fn) (as : M (List D)) (d : D) (ρ : Rho) : Rs D := (optR (callOM.isAdr d) ρ).bnd (coB C F as d)
theorem coA_r : coA C F as d ρ = (optR (callOM.isAdr d) ρ).bnd (coB C F as d) := Eq.trans (Eq.refl _) (Eq.refl _)
theorem callO_r : callOM C F f as ρ = (f ρ).bnd (coA C F as) := by
  unfold callOM
  rw [bind_r]
  congr 1
  funext d ρ1
  rw [bind_r, opt_r]
  unfold coA
  congr 1
  funext u ρ2
  rw [bind_r]
  unfold coB
  congr 1
  funext ds ρ3
  rw [getO_bnd]
  rfl
def inE (C : Addr) (F : Fn) (e d : D) (_ : Unit) (ρ : Rho) : Rs D := inF F d e ρ
def endI (l : List (Option Slot)) : Rf → Rs D
  | .ok (.bl b) g => .ok (.bl b) ⟨l, g⟩
  | _ => .no
theorem endI_ok {b : Bool} : endI l (.ok (.bl b) g) = .ok (.bl b) ⟨l, g⟩ := Eq.trans (Eq.refl _) (Eq.refl _)
theorem inE_r {e : D} : inE C F e d u ⟨l, g⟩ = endI l (F [d, e] g) := by
  unfold inE inF endI
  cases F [d, e] g with
  | ok d g => cases d <;> rfl
  | _ => rfl
def inD1 (C : Addr) (F : Fn) (e d : D) (ρ : Rho) : Rs D := (lkB (isObD C) d ρ).bnd (inE C F e d)
theorem inD1_r {e : D} : inD1 C F e d ρ = (lkB (isObD C) d ρ).bnd (inE C F e d) := Eq.trans (Eq.refl _) (Eq.refl _)
def inA (C : Addr) (F : Fn) (fo : M D) (e : D) (ρ : Rho) : Rs D := (fo ρ).bnd (inD1 C F e)
theorem inA_r {e : D} : inA C F f e ρ = (f ρ).bnd (inD1 C F e) := Eq.trans (Eq.refl _) (Eq.refl _)
theorem inO_r : inOM C F fa f ρ = (fa ρ).bnd (inA C F f) := by
  unfold inOM
  rw [bind_r]
  congr 1
  funext e ρ1
  rw [bind_r]
  unfold inA
  congr 1
  funext d ρ2
  rw [getO_bnd]
  rfl
variable {fr : M Ref}
def fsB (C : Addr) (m : Str) (d : D) (r : Ref) (ρ : Rho) : Rs Out := (updO r (fstO C m d) ρ).bnd nxK
theorem fsB_r {r : Ref} : fsB C m d r ρ = (updO r (fstO C m d) ρ).bnd nxK := Eq.trans (Eq.refl _) (Eq.refl _)
def fsA (C : Addr) (m : Str) (fr : M Ref) (d : D) (ρ : Rho) : Rs Out := (fr ρ).bnd (fsB C m d)
theorem fsA_r : fsA C m fr d ρ = (fr ρ).bnd (fsB C m d) := Eq.trans (Eq.refl _) (Eq.refl _)
theorem fst_r : fstM C m fr f ρ = (f ρ).bnd (fsA C m fr) := by
  unfold fstM
  rw [bind_r]
  congr 1
noncomputable def mkK (C : Addr) (F : Fn) (ds : List D) (ρ : Rho) : Rs O := mkNF C F ds ρ
theorem mkN_r : mkN C F as ρ = (as ρ).bnd (mkK C F) := bind_r
/-- the new instance -/
theorem mk_ok {ds : List D} {o : O} (h : F (.ptr g.length :: ds) (g ++ [.ob C [] []]) = .ok .non (g ++ [o])) (hn : noP g.length o.frozen) : mkK C F ds ⟨l, g⟩ = .ok o ⟨l, g⟩ := by
  unfold mkK mkNF
  simp only [h]
  have hx : ∃ o', g ++ [o] = g ++ [o'] ∧ noP g.length o'.frozen := ⟨o, rfl, hn⟩
  rw [dif_pos hx]
  have h2 := (Classical.choose_spec hx).1
  have : o = Classical.choose hx := by
    have := List.append_cancel_left h2
    simpa using this
  rw [← this]
end
theorem enumI_r : enumI f ρ = (f ρ).bnd (opK enD) := op_r
theorem zipSI_r {f2 : M D} : zipSI f f2 ρ = (f ρ).bnd (b2A zipSD f2) := b2G_r
def joB (fe : M D) (d : D) (_ : Unit) (ρ : Rho) : Rs D := (fe ρ).bnd (opK (joinD d))
theorem joB_r {fe : M D} {d : D} {u : Unit} : joB fe d u ρ = (fe ρ).bnd (opK (joinD d)) := Eq.trans (Eq.refl _) (Eq.refl _)
def joA (fe : M D) (d : D) (ρ : Rho) : Rs D := (optR (isSD d) ρ).bnd (joB fe d)
theorem joA_r {fe : M D} {d : D} : joA fe d ρ = (optR (isSD d) ρ).bnd (joB fe d) := Eq.trans (Eq.refl _) (Eq.refl _)
theorem join_r {fe : M D} : joinM f fe ρ = (f ρ).bnd (joA fe) := by
  unfold joinM
  rw [bind_r]
  congr 1
  funext d ρ1
  rw [bind_r, opt_r]
  unfold joA
  congr 1
  funext u ρ2
  rw [op_r]
  rfl
theorem isSD_s {z : Str} : isSD (.str z) = some () := Eq.trans (Eq.refl _) (Eq.refl _)
theorem rev_lst {ds : List D} : revO (.lst ds) = some (.lst ds.reverse) := Eq.trans (Eq.refl _) (Eq.refl _)
theorem revD_lst {ds : List D} : revD (.lst ds) = some (.lst ds.reverse) := Eq.trans (Eq.refl _) (Eq.refl _)
theorem en_lst {ds : List D} : enD (.lst ds) = some (enumL ds) := Eq.trans (Eq.refl _) (Eq.refl _)
theorem en_str {z : Str} : enD (.str z) = some (enumL (signsL z)) := Eq.trans (Eq.refl _) (Eq.refl _)
theorem listT_lst {ds : List D} : listTO (.lst ds) = some (.lst ds) := Eq.trans (Eq.refl _) (Eq.refl _)
theorem listT_tup {ds : List D} : listTO (.tup ds) = some (.lst ds) := Eq.trans (Eq.refl _) (Eq.refl _)
section
variable {β : Type} {bnd : D → M Unit} {tt : M Bool} {kx el : M D} {vs : List Nat} {src : M (List D)}
def dcL (bnd : D → M Unit) (tt : M Bool) (kx el : M D) (vs : List Nat) (ds : List D) (ρ : Rho) : Rs O := (dcLoop bnd tt kx el vs ds ([], []) ρ).bnd fun out ρ => .ok (.dk out.1 out.2) ρ
theorem dc_r : dcM src bnd tt kx el vs ρ = (src ρ).bnd (dcL bnd tt kx el vs) := by
  unfold dcM dcL
  rw [bind_r]
  congr 1
def keyK (el : M D) (kd : D) (ρ : Rho) : Rs (Option (Key × D)) := (optR (asKey kd) ρ).bnd fun k ρ => (el ρ).bnd fun z ρ => .ok (some (k, z)) ρ
def keyL1 (el : M D) (k : Key) (ρ : Rho) : Rs (Option (Key × D)) := (el ρ).bnd fun z ρ => .ok (some (k, z)) ρ
def keyL2 (k : Key) (z : D) (ρ : Rho) : Rs (Option (Key × D)) := .ok (some (k, z)) ρ
theorem keyK_r {kd : D} : keyK el kd ρ = (optR (asKey kd) ρ).bnd (keyL1 el) := Eq.trans (Eq.refl _) (Eq.refl _)
theorem keyL1_r {k : Key} : keyL1 el k ρ = (el ρ).bnd (keyL2 k) := Eq.trans (Eq.refl _) (Eq.refl _)
theorem keyL2_r {k : Key} {z : D} : keyL2 k z ρ = .ok (some (k, z)) ρ := Eq.trans (Eq.refl _) (Eq.refl _)
theorem asKey_str {z : Str} : asKey (.str z) = some (.inr z) := Eq.trans (Eq.refl _) (Eq.refl _)
theorem asKey_int {i : Int} : asKey (.int i) = some (.inl i) := Eq.trans (Eq.refl _) (Eq.refl _)
def turnKA (tt : M Bool) (kx el : M D) (_ : Unit) (ρ : Rho) : Rs (Option (Key × D)) := (tt ρ).bnd fun b ρ => match b with
  | true => (kx ρ).bnd (keyK el)
  | false => .ok none ρ
def turnKB (kx el : M D) (b : Bool) (ρ : Rho) : Rs (Option (Key × D)) := match b with
  | true => (kx ρ).bnd (keyK el)
  | false => .ok none ρ
theorem turnKA_r {u : Unit} : turnKA tt kx el u ρ = (tt ρ).bnd (turnKB kx el) := Eq.trans (Eq.refl _) (Eq.refl _)
theorem turnKB_t : turnKB kx el true ρ = (kx ρ).bnd (keyK el) := Eq.trans (Eq.refl _) (Eq.refl _)
theorem turnKB_f : turnKB kx el false ρ = .ok none ρ := Eq.trans (Eq.refl _) (Eq.refl _)
theorem turnK_r {d : D} : turnK bnd tt kx el vs d ρ = endT ρ vs ((bnd d (wipeR ρ vs)).bnd (turnKA tt kx el)) := by
  have e : (bnd d >>= fun _ => tt >>= fun b => if b then kx >>= fun kd => M.opt (asKey kd) >>= fun k => el >>= fun z => M.ret (some (k, z)) else M.ret none) (wipeR ρ vs) = (bnd d (wipeR ρ vs)).bnd (turnKA tt kx el) := by
    rw [bind_r]
    congr 1
    funext u ρ1
    rw [bind_r]
    unfold turnKA
    congr 1
    funext b ρ2
    cases b with
    | false => rfl
    | true =>
      show (kx >>= _) ρ2 = _
      rw [bind_r]
      congr 1
      funext kd ρ3
      rw [bind_r, opt_r]
      unfold keyK
      congr 1
  unfold turnK
  rw [e]
  unfold endT
  generalize (bnd d (wipeR ρ vs)).bnd _ = r
  cases r <;> rfl
theorem dcLoop_map {f : β → D} (k : β → Key) (r : β → D) : ∀ (xs : List β) (ks : List Key) (acc : List D), (∀ x ∈ xs, turnK bnd tt kx el vs (f x) ρ = .ok (some (k x, r x)) ρ) → (ks ++ xs.map k).Nodup → ks.length + xs.length < sizeLine → dcLoop bnd tt kx el vs (xs.map f) (ks, acc) ρ = .ok (ks ++ xs.map k, acc ++ xs.map r) ρ
  | [], ks, acc, _, _, _ => by simp [dcLoop, M.ret]
  | x :: xs, ks, acc, hs, hd, hz => by
    rw [List.length_cons] at hz
    rw [List.map_cons]
    simp only [dcLoop]
    have hk : ¬ ((ks.any fun j => decide (j = k x)) = true) := fun h => by
      obtain ⟨j, hj, e⟩ := List.any_eq_true.mp h
      have e := of_decide_eq_true e
      subst e
      rw [List.map_cons] at hd
      exact (List.nodup_append.mp hd).2.2 _ hj _ List.mem_cons_self rfl
    rw [if_pos (by omega), bnd_ok (hs x List.mem_cons_self)]
    simp only [dcNext]
    rw [if_neg hk, dcLoop_map k r xs _ _ (fun y hy => hs y (List.mem_cons_of_mem _ hy)) (by rw [List.append_assoc]; simpa using hd) (by rw [List.length_append, List.length_singleton]; omega)]
    simp
theorem dcL_map {f : β → D} {xs : List β} {k : β → Key} {r : β → D} (hs : ∀ x ∈ xs, turnK bnd tt kx el vs (f x) ρ = .ok (some (k x, r x)) ρ) (hd : (xs.map k).Nodup) (hz : xs.length < 100000) : dcL bnd tt kx el vs (xs.map f) ρ = .ok (.dk (xs.map k) (xs.map r)) ρ := by
  unfold dcL
  rw [dcLoop_map k r xs [] [] hs (by simpa using hd) (by simpa using lt_size hz), Rs.bnd_ok]
  rfl
end
end
theorem keyL_map {β : Type} {k : β → Key} {r : β → D} {x : β} : ∀ {xs : List β}, x ∈ xs → (∀ y ∈ xs, k y = k x → y = x) → keyL (k x) (xs.map k) (xs.map r) = some (r x)
  | [], h, _ => by cases h
  | y :: ys, h, hi => by
    rw [List.map_cons, List.map_cons]
    simp only [keyL]
    by_cases e : k y = k x
    · rw [if_pos e, hi y List.mem_cons_self e]
    · rw [if_neg e]
      rcases List.mem_cons.mp h with rfl | h
      · exact absurd rfl e
      · exact keyL_map h fun z hz => hi z (List.mem_cons_of_mem _ hz)
section
variable {C : Addr} {f g m : Str} {fs : List Str} {ds : List D} {d e : D}
theorem fldD_ob : fldD C f (.ob C fs ds) = fldL f fs ds := if_pos rfl
theorem fldL_hit : fldL f (f :: fs) (d :: ds) = some d := if_pos rfl
theorem fldL_miss (h : f ≠ g) : fldL f (g :: fs) (d :: ds) = fldL f fs ds := if_neg h
theorem fstO_ob (h : fs.length < 1000) : fstO C f d (.ob C fs ds) = some ((), .ob C (putN f d fs ds).1 (putN f d fs ds).2) := if_pos ⟨rfl, h⟩
theorem putN_nil : putN f d [] [] = ([f], [d]) := Eq.trans (Eq.refl _) (Eq.refl _)
theorem putN_miss (h : g ≠ f) : putN f d (g :: fs) (e :: ds) = (g :: (putN f d fs ds).1, e :: (putN f d fs ds).2) := if_neg h
theorem slf_ob (h : m ∉ fs) : slfD C m (.ob C fs ds) = some () := if_pos ⟨rfl, h⟩
theorem isOb_ob : isObD C (.ob C fs ds) = some () := if_pos rfl
end
section
variable {C : Addr} {m : Str} {F : Fn} {p n : Nat} {perm : List Nat} {f : M D} {as ks : M (List D)} {d : D} {ds zs : List D} {u : Unit} {ρ : Rho} {l : List (Option Slot)} {g : Cells}
def mkwC (F : Fn) (p n : Nat) (perm : List Nat) (d : D) (ds zs : List D) (ρ : Rho) : Rs D := callF F (kwG (p + 1) n perm (d :: ds) zs) ρ
theorem mkwC_r : mkwC F p n perm d ds zs ⟨l, g⟩ = endC l (F (kwG (p + 1) n perm (d :: ds) zs) g) := callF_r
def mkwB (F : Fn) (p n : Nat) (perm : List Nat) (ks : M (List D)) (d : D) (ds : List D) (ρ : Rho) : Rs D := (ks ρ).bnd (mkwC F p n perm d ds)
theorem mkwB_r : mkwB F p n perm ks d ds ρ = (ks ρ).bnd (mkwC F p n perm d ds) := Eq.trans (Eq.refl _) (Eq.refl _)
def mkwA (F : Fn) (p n : Nat) (perm : List Nat) (as ks : M (List D)) (d : D) (_ : Unit) (ρ : Rho) : Rs D := (as ρ).bnd (mkwB F p n perm ks d)
theorem mkwA_r : mkwA F p n perm as ks d u ρ = (as ρ).bnd (mkwB F p n perm ks d) := Eq.trans (Eq.refl _) (Eq.refl _)
def mkwK (C : Addr) (m : Str) (F : Fn) (p n : Nat) (perm : List Nat) (as ks : M (List D)) (d : D) (ρ : Rho) : Rs D := (lkB (slfD C m) d ρ).bnd (mkwA F p n perm as ks d)
theorem mkwK_r : mkwK C m F p n perm as ks d ρ = (lkB (slfD C m) d ρ).bnd (mkwA F p n perm as ks d) := Eq.trans (Eq.refl _) (Eq.refl _)
theorem meKw_r : meKwM C m F p n perm f as ks ρ = (f ρ).bnd (mkwK C m F p n perm as ks) := by
  unfold meKwM
  rw [bind_r]
  congr 1
  funext d ρ1
  rw [getO_bnd]
  unfold mkwK
  congr 1
theorem kwG_13 {a b c : D} : kwG (0 + 1) 3 [2, 1, 0] [d] [a, b, c] = [d, c, b, a] := Eq.trans (Eq.refl _) (Eq.refl _)
end
def EV23 := And.intro @mkwC_r (And.intro @mkwB_r (And.intro @mkwA_r (And.intro @mkwK_r (And.intro @meKw_r @kwG_13))))
section
variable {α : Type} {C : Addr} {n : Nat} {f : Option Str} {code : Str} {as : M (List D)} {ρ : Rho} {d : D}
def raK (C : Addr) (n : Nat) (f : Option Str) (code : Str) (ds : List D) (ρ : Rho) : Rs α := if ds.length = arN f then .ex ⟨C, n, errN f, .str code :: ds⟩ ρ else .no
theorem raise_r : (raiseM C n f code as : M α) ρ = (as ρ).bnd (raK C n f code) := bind_r
theorem raK_1 {g : Str} : (raK C n (some g) code [d] ρ : Rs α) = .ex ⟨C, n, ["code", g], [.str code, d]⟩ ρ := if_pos rfl
theorem raK_0 : (raK C n none code [] ρ : Rs α) = .ex ⟨C, n, ["code"], [.str code]⟩ ρ := if_pos rfl
end
def EV18 := And.intro @parG_r (And.intro @setG_2 (And.intro @setG_3 (And.intro @slot_v (And.intro @slot_n (And.intro @gNil_r (And.intro @gVK_r (And.intro @gVL_r (And.intro @gV_r (And.intro @gNK_r (And.intro @gNL_r (And.intro @gN_r (And.intro @chC_r @chE_r))))))))))))
def EV19 := And.intro @chF_t (And.intro @chF_f (And.intro @ch_r (And.intro @endG_ok (And.intro @endG_new (And.intro @endC_ex (And.intro @lkB_r (And.intro @getK_r (And.intro @propK_r (And.intro @prop_r (And.intro @meB_r (And.intro @meA_r (And.intro @meK_r @meth_r))))))))))))
def EV20 := And.intro @coD_r (And.intro @coC_r (And.intro @coB_r (And.intro @coA_r (And.intro @callO_r (And.intro @endI_ok (And.intro @inE_r (And.intro @inD1_r (And.intro @inA_r (And.intro @inO_r (And.intro @fsB_r (And.intro @fsA_r (And.intro @fst_r @mkN_r))))))))))))
def EV21 := And.intro @enumI_r (And.intro @zipSI_r (And.intro @joB_r (And.intro @joA_r (And.intro @join_r (And.intro @isSD_s (And.intro @rev_lst (And.intro @revD_lst (And.intro @en_lst (And.intro @en_str (And.intro @listT_lst (And.intro @listT_tup (And.intro @dc_r @keyK_r))))))))))))
def EV22 := And.intro @keyL1_r (And.intro @keyL2_r (And.intro @asKey_str (And.intro @asKey_int (And.intro @turnKA_r (And.intro @turnKB_t (And.intro @turnKB_f (And.intro @turnK_r (And.intro @fldD_ob (And.intro @isOb_ob (And.intro @raise_r (And.intro @raK_1 @raK_0)))))))))))
end Nc
namespace Nc
open PySem PySem.Spec PyProof.Rows L2
section
variable {ρ : Rho} {C : Addr} {n : Nat} {f g : Str} {code : Str} {as : M (List D)} {d : D} {T : Nat → Addr} {yes : Nat → Option Bool} {Cs : List Addr} {fs : List Str} {ds : List D} {gs : Cells}
def mkxK (C : Addr) (n : Nat) (f : Option Str) (code : Str) (ds : List D) (ρ : Rho) : Rs D := if ds.length = arN f then .ok (.xn C n (errN f) (.str code :: ds)) ρ else .no
theorem mkx_r {fo : Option Str} : mkxM C n fo code as ρ = (as ρ).bnd (mkxK C n fo code) := bind_r
theorem mkxK_1 : mkxK C n (some g) code [d] ρ = .ok (.xn C n ["code", g] [.str code, d]) ρ := if_pos rfl
theorem mkxK_0 : mkxK C n none code [] ρ = .ok (.xn C n ["code"] [.str code]) ρ := if_pos rfl
theorem lookG_xn : lookG gs (.xn C n fs ds) = some (.xn C n fs ds) := Eq.trans (Eq.refl _) (Eq.refl _)
theorem isxD_at : isxD T yes (.xn (T n) n fs ds) = (yes n).map .bl := if_pos rfl
end
def EV24 := And.intro @mkx_r (And.intro @mkxK_1 (And.intro @mkxK_0 (And.intro @lookG_xn (And.intro @isxD_at @tellR_ok))))
end Nc
namespace Nc
open PySem PySem.Spec PyProof.Rows L2
def SatE {α : Type} (r : Rs α) (e : Xn) (g : Cells) : Prop := match r with
  | .ex e' ρ => e' = e ∧ ρ.g = g
  | _ => False
section
variable {α β : Type} {r : Rs α} {a : α} {ρ : Rho} {f : α → Rho → Rs β} {P : α → Rho → Prop} {e e' : Xn} {g : Cells}
theorem satE_ex : SatE (.ex e' ρ : Rs α) e g = (e' = e ∧ ρ.g = g) := Eq.trans (Eq.refl _) (Eq.refl _)
theorem SatE.step (h : r = .ok a ρ) (k : SatE (f a ρ) e g) : SatE (r.bnd f) e g := by rw [h]; exact k
theorem SatE.get (h : SatE r e g) : ∃ l, r = .ex e ⟨l, g⟩ := by
  cases r with
  | no => exact h.elim
  | ok a ρ => exact h.elim
  | ex e ρ =>
    obtain ⟨rfl, rfl⟩ := h
    exact ⟨ρ.l, rfl⟩
theorem SatE.of (h : r = .ex e ρ) (hg : ρ.g = g) : SatE r e g := by
  rw [h]
  exact ⟨rfl, hg⟩
end
theorem run_satE {n k : Nat} {h : M Out} {ds : List D} {g g' : Cells} {l : List (Option Slot)} {e : Xn} (hl : ds.length = k) (hs : vals ds ++ List.replicate (n - ds.length) none = l) (hh : SatE (h ⟨l, g⟩) e g') : runB n k h ds g = .ex e g' := by
  obtain ⟨l', e2⟩ := hh.get
  unfold runB startR
  rw [if_pos hl, hs, e2]
  rfl
section
variable {bnd : D → M Unit} {body : M Out}
theorem loop_cons_nx {d : D} {ds : List D} {ρ ρ' : Rho} (h : turnF bnd body d ρ = .ok .nx ρ') : loopS bnd body (d :: ds) ρ = loopS bnd body ds ρ' := loop_turn h
theorem loop_cons_ex {d : D} {ds : List D} {ρ ρ' : Rho} {x : Xn} (h : turnF bnd body d ρ = .ex x ρ') : loopS bnd body (d :: ds) ρ = .ex x ρ' := by
  rw [loop_cons]
  rw [turnF_r] at h
  cases e : bnd d ρ with
  | no => rw [e] at h; cases h
  | ex x ρ1 =>
    rw [e] at h
    exact h
  | ok u ρ1 =>
    rw [e] at h
    rw [Rs.bnd_ok] at h ⊢
    unfold bodyK at h
    unfold loopK
    cases e2 : body ρ1 with
    | no => rw [e2] at h; cases h
    | ex x ρ2 =>
      rw [e2] at h
      exact h
    | ok o ρ2 =>
      rw [e2] at h
      rw [Rs.bnd_ok] at h
      cases o <;> cases h
def loR (J : Nat → Rho → Prop) (Q : D → Rho → Prop) (i : Nat) (o : Out) (ρ : Rho) : Prop := match o with
  | .nx => J i ρ
  | .rt d => Q d ρ
  | _ => False
theorem loR_nx {J : Nat → Rho → Prop} {Q : D → Rho → Prop} {i : Nat} {ρ : Rho} : Sat (.ok .nx ρ) (loR J Q i) = J i ρ := Eq.trans (Eq.refl _) (Eq.refl _)
theorem loR_rt {J : Nat → Rho → Prop} {Q : D → Rho → Prop} {i : Nat} {d : D} {ρ : Rho} : Sat (.ok (.rt d) ρ) (loR J Q i) = Q d ρ := Eq.trans (Eq.refl _) (Eq.refl _)
/-- a for whose k-th turn raises -/
theorem loop_satE {x : Xn} {g : Cells} : ∀ {ds : List D} {ρ : Rho} (J : Nat → Rho → Prop) (k : Nat) (v : D), ds[k]? = some v → J 0 ρ → (∀ i d ρ, i < k → ds[i]? = some d → J i ρ → Sat (turnF bnd body d ρ) fun o ρ' => o = .nx ∧ J (i + 1) ρ') → (∀ ρ, J k ρ → SatE (turnF bnd body v ρ) x g) → SatE (loopS bnd body ds ρ) x g
  | [], ρ, J, k, v, hk, _, _, _ => by simp at hk
  | d :: ds, ρ, J, 0, v, hk, h0, _, he => by
    simp at hk
    subst hk
    obtain ⟨l, e⟩ := (he ρ h0).get
    rw [loop_cons_ex e]
    exact ⟨rfl, rfl⟩
  | d :: ds, ρ, J, k + 1, v, hk, h0, hs, he => by
    obtain ⟨o, ρ', e, rfl, h⟩ := (hs 0 d ρ (Nat.succ_pos _) rfl h0).get
    rw [loop_cons_nx e]
    exact loop_satE (fun i => J (i + 1)) k v (by simpa using hk) h (fun i d' ρ2 hi hd hJ => hs (i + 1) d' ρ2 (Nat.succ_lt_succ hi) (by simpa using hd) hJ) he
end
def EV25 := And.intro @satE_ex (And.intro @loR_nx @loR_rt)
end Nc
namespace Nc
open PySem PySem.Spec PyProof.Rows L2
section
variable {ρ : Rho} {C : Addr} {F : Fn} {as : M (List D)} {ds : List D} {l : List (Option Slot)} {g : Cells} {d : D} {i : Nat}
def cmethK (C : Addr) (F : Fn) (ds : List D) (ρ : Rho) : Rs D := endC ρ.l (F (.adr C :: ds) ρ.g)
theorem cmethK_r : cmethK C F ds ⟨l, g⟩ = endC l (F (.adr C :: ds) g) := Eq.trans (Eq.refl _) (Eq.refl _)
theorem cmeth_r : cmethM C F as ρ = (as ρ).bnd (cmethK C F) := by
  unfold cmethM
  rw [bind_r]
  congr 1
theorem mkV_r (h : l[i]? = some (some (.val (.adr C)))) : mkVN i C F as ⟨l, g⟩ = (as ⟨l, g⟩).bnd (mkK C F) := by
  have e : (⟨l, g⟩ : Rho)[i]? = some (some (.val (.adr C))) := h
  unfold mkVN
  simp only [e, if_true]
  exact mkN_r
theorem lookG_adr {a : Addr} : lookG g (.adr a) = some (.adr a) := Eq.trans (Eq.refl _) (Eq.refl _)
theorem noOwn_nil : noOwn [] = true := Eq.trans (Eq.refl _) (Eq.refl _)
theorem noOwn_val : noOwn (some (.val d) :: l) = noOwn l := Eq.trans (Eq.refl _) (Eq.refl _)
theorem noOwn_none : noOwn (none :: l) = noOwn l := Eq.trans (Eq.refl _) (Eq.refl _)
end
def EV26 := And.intro @cmethK_r (And.intro @cmeth_r (And.intro @mkV_r (And.intro @lookG_adr (And.intro @noOwn_nil (And.intro @noOwn_val (And.intro @noOwn_none @tellM_r))))))
end Nc
namespace Nc
open PySem PySem.Spec PyProof.Rows L2
section
variable {ρ : Rho} {C : Addr} {F : Fn} {fa fb : M D} {ds : List D} {l : List (Option Slot)} {g : Cells} {d e : D} {u : Unit} {ck : D → Bool}
def boD (F : Fn) (d e : D) (_ : Unit) (ρ : Rho) : Rs D := callF F [d, e] ρ
theorem boD_r : boD F d e u ⟨l, g⟩ = endC l (F [d, e] g) := callF_r
def boC (C : Addr) (F : Fn) (d e : D) (_ : Unit) (ρ : Rho) : Rs D := (lkB (isObD C) e ρ).bnd (boD F d e)
theorem boC_r : boC C F d e u ρ = (lkB (isObD C) e ρ).bnd (boD F d e) := Eq.trans (Eq.refl _) (Eq.refl _)
def boB (C : Addr) (F : Fn) (d e : D) (ρ : Rho) : Rs D := (lkB (isObD C) d ρ).bnd (boC C F d e)
theorem boB_r : boB C F d e ρ = (lkB (isObD C) d ρ).bnd (boC C F d e) := Eq.trans (Eq.refl _) (Eq.refl _)
def boA (C : Addr) (F : Fn) (fb : M D) (d : D) (ρ : Rho) : Rs D := (fb ρ).bnd (boB C F d)
theorem boA_r : boA C F fb d ρ = (fb ρ).bnd (boB C F d) := Eq.trans (Eq.refl _) (Eq.refl _)
theorem binO_r : binOM C F fa fb ρ = (fa ρ).bnd (boA C F fb) := by
  unfold binOM
  rw [bind_r]
  congr 1
  funext d ρ1
  rw [bind_r]
  unfold boA
  congr 1
  funext e ρ2
  rw [getO_bnd]
  unfold boB
  congr 1
  funext u ρ3
  rw [getO_bnd]
  rfl
def endK (ck : D → Bool) (l : List (Option Slot)) : Rf → Rs D
  | .ok d g => if ck d = true then .ok d ⟨l, g⟩ else .no
  | _ => .no
theorem endK_a : endK ckA l (.ok d g) = .ok d ⟨l, g⟩ := Eq.trans (Eq.refl _) (Eq.refl _)
theorem endK_l {n : Nat} (h : n < 1000000) : endK ckLen l (.ok (.int n) g) = .ok (.int n) ⟨l, g⟩ := by
  have e : ckLen (.int n) = true := by
    simp only [ckLen]
    rw [decide_eq_true (show 0 ≤ (n : Int) by omega), decide_eq_true (show (n : Int) < 2 ^ 63 by omega)]
    rfl
  simp only [endK, e, if_true]
theorem endK_s {z : Str} : endK ckStr l (.ok (.str z) g) = .ok (.str z) ⟨l, g⟩ := Eq.trans (Eq.refl _) (Eq.refl _)
theorem ckF_r : ckF ck F ds ⟨l, g⟩ = endK ck l (F ds g) := by
  unfold ckF endK
  cases F ds g <;> rfl
def eoD (F : Fn) (d e : D) (_ : Unit) (ρ : Rho) : Rs D := ckF ckA F [d, e] ρ
theorem eoD_r : eoD F d e u ⟨l, g⟩ = endK ckA l (F [d, e] g) := ckF_r
def eoC (C : Addr) (F : Fn) (d e : D) (_ : Unit) (ρ : Rho) : Rs D := (lkB (isObD C) e ρ).bnd (eoD F d e)
theorem eoC_r : eoC C F d e u ρ = (lkB (isObD C) e ρ).bnd (eoD F d e) := Eq.trans (Eq.refl _) (Eq.refl _)
def eoB (C : Addr) (F : Fn) (d e : D) (ρ : Rho) : Rs D := (lkB (isObD C) d ρ).bnd (eoC C F d e)
theorem eoB_r : eoB C F d e ρ = (lkB (isObD C) d ρ).bnd (eoC C F d e) := Eq.trans (Eq.refl _) (Eq.refl _)
def eoA (C : Addr) (F : Fn) (fb : M D) (d : D) (ρ : Rho) : Rs D := (fb ρ).bnd (eoB C F d)
theorem eoA_r : eoA C F fb d ρ = (fb ρ).bnd (eoB C F d) := Eq.trans (Eq.refl _) (Eq.refl _)
theorem eqO_r : eqOM C F fa fb ρ = (fa ρ).bnd (eoA C F fb) := by
  unfold eqOM
  rw [bind_r]
  congr 1
  funext d ρ1
  rw [bind_r]
  unfold eoA
  congr 1
  funext e ρ2
  rw [getO_bnd]
  unfold eoB
  congr 1
  funext u ρ3
  rw [getO_bnd]
  rfl
def uoB (ck : D → Bool) (F : Fn) (d : D) (_ : Unit) (ρ : Rho) : Rs D := ckF ck F [d] ρ
theorem uoB_r : uoB ck F d u ⟨l, g⟩ = endK ck l (F [d] g) := ckF_r
def uoA (C : Addr) (ck : D → Bool) (F : Fn) (d : D) (ρ : Rho) : Rs D := (lkB (isObD C) d ρ).bnd (uoB ck F d)
theorem uoA_r : uoA C ck F d ρ = (lkB (isObD C) d ρ).bnd (uoB ck F d) := Eq.trans (Eq.refl _) (Eq.refl _)
theorem unO_r : unOM C ck F fa ρ = (fa ρ).bnd (uoA C ck F) := by
  unfold unOM
  rw [bind_r]
  congr 1
  funext d ρ1
  rw [getO_bnd]
  rfl
end
def EV27 := And.intro @boD_r (And.intro @boC_r (And.intro @boB_r (And.intro @boA_r (And.intro @binO_r (And.intro @endK_a (And.intro @endK_l (And.intro @endK_s (And.intro @eoD_r (And.intro @eoC_r (And.intro @eoB_r (And.intro @eoA_r (And.intro @eqO_r (And.intro @uoB_r (And.intro @uoA_r @unO_r))))))))))))))
end Nc
namespace Nc
open PySem PySem.Spec PyProof.Rows L2
section
variable {ρ : Rho} {bnd : D → M Unit} {tt : M Bool} {T : List D → M (List D)} {vs : List Nat} {src : M (List D)} {el : M D} {d : D} {acc : List D} {u : Unit} {β : Type}
def tB (T : List D → M (List D)) (acc : List D) (b : Bool) (ρ : Rho) : Rs (List D) := match b with
  | true => T acc ρ
  | false => .ok acc ρ
theorem tB_t : tB T acc true ρ = T acc ρ := Eq.trans (Eq.refl _) (Eq.refl _)
theorem tB_f : tB T acc false ρ = .ok acc ρ := Eq.trans (Eq.refl _) (Eq.refl _)
def tA (tt : M Bool) (T : List D → M (List D)) (acc : List D) (_ : Unit) (ρ : Rho) : Rs (List D) := (tt ρ).bnd (tB T acc)
theorem tA_r : tA tt T acc u ρ = (tt ρ).bnd (tB T acc) := Eq.trans (Eq.refl _) (Eq.refl _)
theorem turnT_r : turnT bnd tt T vs d acc ρ = endT ρ vs ((bnd d (wipeR ρ vs)).bnd (tA tt T acc)) := by
  have e : (bnd d >>= fun _ => tt >>= fun b => if b then T acc else M.ret acc) (wipeR ρ vs) = (bnd d (wipeR ρ vs)).bnd (tA tt T acc) := by
    rw [bind_r]
    congr 1
    funext u ρ2
    rw [bind_r]
    unfold tA
    congr 1
    funext b ρ3
    cases b <;> rfl
  unfold turnT
  rw [e]
  unfold endT
  cases (bnd d (wipeR ρ vs)).bnd (tA tt T acc) <;> rfl
def inLT (bnd : D → M Unit) (tt : M Bool) (T : List D → M (List D)) (vs : List Nat) (acc : List D) (ds : List D) (ρ : Rho) : Rs (List D) := loopT bnd tt T vs ds acc ρ
theorem inT_r : inT src bnd tt T vs acc ρ = (src ρ).bnd (inLT bnd tt T vs acc) := bind_r
def emK (acc : List D) (z : D) (ρ : Rho) : Rs (List D) := .ok (acc ++ [z]) ρ
theorem emK_r {z : D} : emK acc z ρ = .ok (acc ++ [z]) ρ := Eq.trans (Eq.refl _) (Eq.refl _)
theorem emT_r (h : acc.length < 100000) : emT el acc ρ = (el ρ).bnd (emK acc) := by
  unfold emT
  rw [if_pos (lt_size h)]
  exact bind_r
def toO (out : List D) (ρ : Rho) : Rs O := .ok (.lst out) ρ
theorem toO_r {out : List D} : toO out ρ = .ok (.lst out) ρ := Eq.trans (Eq.refl _) (Eq.refl _)
def lcTK (bnd : D → M Unit) (tt : M Bool) (T : List D → M (List D)) (vs : List Nat) (ds : List D) (ρ : Rho) : Rs O := (inLT bnd tt T vs [] ds ρ).bnd toO
theorem lcTK_r {ds : List D} : lcTK bnd tt T vs ds ρ = (inLT bnd tt T vs [] ds ρ).bnd toO := Eq.trans (Eq.refl _) (Eq.refl _)
theorem lcT_r : lcTM src bnd tt T vs ρ = (src ρ).bnd (lcTK bnd tt T vs) := by
  unfold lcTM
  rw [bind_r]
  congr 1
end
def EV28 := And.intro @tB_t (And.intro @tB_f (And.intro @tA_r (And.intro @turnT_r (And.intro @inT_r (And.intro @emK_r (And.intro @emT_r (And.intro @toO_r (And.intro @lcTK_r @lcT_r))))))))
end Nc
namespace Nc
open PySem PySem.Spec PyProof.Rows L2
section
variable {ρ : Rho} {fk fv f fj : M D} {fr : M Ref} {d j : D} {r : Ref}
theorem d0_r : d0M ρ = .ok (.dk [] []) ρ := Eq.trans (Eq.refl _) (Eq.refl _)
def d1B (j : D) (d : D) (ρ : Rho) : Rs O := optR (d1O j d) ρ
theorem d1B_r : d1B j d ρ = optR (d1O j d) ρ := Eq.trans (Eq.refl _) (Eq.refl _)
def d1A (fv : M D) (j : D) (ρ : Rho) : Rs O := (fv ρ).bnd (d1B j)
theorem d1A_r : d1A fv j ρ = (fv ρ).bnd (d1B j) := Eq.trans (Eq.refl _) (Eq.refl _)
theorem d1_r : d1M fk fv ρ = (fk ρ).bnd (d1A fv) := by
  unfold d1M
  rw [bind_r]
  congr 1
  funext j ρ1
  rw [bind_r]
  unfold d1A
  congr 1
  funext d ρ2
  unfold d1B
  cases d1O j d <;> rfl
def dpC (d : D) (r : Ref) (j : D) (ρ : Rho) : Rs Out := (updO r (putDO j d) ρ).bnd nxK
theorem dpC_r : dpC d r j ρ = (updO r (putDO j d) ρ).bnd nxK := Eq.trans (Eq.refl _) (Eq.refl _)
def dpB (fj : M D) (d : D) (r : Ref) (ρ : Rho) : Rs Out := (fj ρ).bnd (dpC d r)
theorem dpB_r : dpB fj d r ρ = (fj ρ).bnd (dpC d r) := Eq.trans (Eq.refl _) (Eq.refl _)
def dpA (fr : M Ref) (fj : M D) (d : D) (ρ : Rho) : Rs Out := (fr ρ).bnd (dpB fj d)
theorem dpA_r : dpA fr fj d ρ = (fr ρ).bnd (dpB fj d) := Eq.trans (Eq.refl _) (Eq.refl _)
theorem dput_r : dputS fr f fj ρ = (f ρ).bnd (dpA fr fj) := by
  unfold dputS
  rw [bind_r]
  congr 1
theorem d1O_n {k : Nat} : d1O (dN k) d = some (.dk [.inl (k : Int)] [d]) := Eq.trans (Eq.refl _) (Eq.refl _)
theorem dnotin_n {k : Nat} {ks : List Key} {ds : List D} : dnotinD (dN k) (.dk ks ds) = some (.bl (!kin (.inl (k : Int)) ks)) := Eq.trans (Eq.refl _) (Eq.refl _)
theorem din_n {k : Nat} {ks : List Key} {ds : List D} : dinD (dN k) (.dk ks ds) = some (.bl (kin (.inl (k : Int)) ks)) := Eq.trans (Eq.refl _) (Eq.refl _)
end
def EV29 := And.intro @d0_r (And.intro @d1B_r (And.intro @d1A_r (And.intro @d1_r (And.intro @dpC_r (And.intro @dpB_r (And.intro @dpA_r (And.intro @dput_r (And.intro @d1O_n (And.intro @dnotin_n @din_n)))))))))
end Nc
namespace Hd
open PySem PySem.Spec PyProof.Rows L2 Nc
abbrev Fr := PySem.W.Frag
abbrev FnV : Type := Option (Str × Str × Arguments × FuncBody × Scope)
def fnV (K : Fr) (a : Addr) : FnV := match K.lookup a with
  | some ⟨_, _, .func fd, _⟩ => some (fd.name, fd.qualname, fd.params, fd.body, fd.scope)
  | _ => none
/-- a def: where its function stands, its names, its statement, its defaults -/
structure Df where
  adr : Fr → Addr
  name : Str
  qual : Str
  st : Stmt
  dfl : List V := []
  kws : List (Str × V) := []
def Df.val (d : Df) : FnV := some (d.name, d.qual, defArgs d.st, .stmts (defBody d.st), defScope d.st)
def Df.ok (K : Fr) (d : Df) : Bool := PySem.W.keepIn K (.ref (d.adr K)) && (match K.lookup (d.adr K) with
  | some ⟨_, _, .func fd, _⟩ => fd.closure.isEmpty && (decide (fd.globals = mainGlobals) && (decide (fd.builtins = builtinsNs) && (PySem.W.codeIn K fd.code d.qual && (He.dflB K fd.defaults d.dfl && He.kwdB K fd.kwdefaults d.kws))))
  | _ => false)
theorem Df.funD {K : Fr} {d : Df} (e : fnV K (d.adr K) = d.val) (c : d.ok K = true) : ∃ fd, FunD K d.name d.qual (defArgs d.st) (defBody d.st) (defScope d.st) d.dfl d.kws (d.adr K) fd := by
  obtain ⟨kp, c2⟩ := He.ba c
  unfold fnV at e
  cases q : K.lookup (d.adr K) with
  | none =>
    rw [q] at c2
    cases c2
  | some o =>
    obtain ⟨oc, od, dt, osl⟩ := o
    rw [q] at c2 e
    cases dt with
    | func fd =>
      obtain ⟨n1, n2, n3, n4, n5, n6, n7, n8, n9, n10, n11, n12, n13, n14, n15⟩ := fd
      have e2 : (some (n1, n2, n3, n4, n5) : FnV) = some (d.name, d.qual, defArgs d.st, .stmts (defBody d.st), defScope d.st) := e
      simp only [Option.some.injEq, Prod.mk.injEq] at e2
      obtain ⟨h1, h2, h3, h4, h5⟩ := e2
      subst h1 h2 h3 h4 h5
      have c3 : (n7.isEmpty && (decide (n6 = mainGlobals) && (decide (n15 = builtinsNs) && (PySem.W.codeIn K n13 d.qual && (He.dflB K n8 d.dfl && He.kwdB K n9 d.kws))))) = true := c2
      obtain ⟨k1, k2⟩ := He.ba c3
      obtain ⟨k3, k4⟩ := He.ba k2
      obtain ⟨k5, k6⟩ := He.ba k4
      obtain ⟨k7, k8⟩ := He.ba k6
      obtain ⟨k8, k9⟩ := He.ba k8
      have z1 : n7 = [] := List.isEmpty_iff.mp k1
      have z2 := of_decide_eq_true k3
      have z3 := of_decide_eq_true k5
      subst z1 z2 z3
      exact ⟨_, ⟨oc, od, n8, n9, n10, n11, n12, n13, n14, osl, rfl, q, k7, He.dflB_ok k8, He.kwdB_ok k9⟩, kp⟩
    | _ => cases c2
/-- an error: its class's name, its __init__, its base -/
structure Er where
  x : Str
  st : Stmt
  qual : Str
  base : String
  newId : String
  initId : String
  tail : List Value
def Er.C (e : Er) (K : Fr) : Addr := He.ga K e.x
def Er.f (e : Er) (K : Fr) : Addr := He.ma K (e.C K) "__init__"
def Er.val (e : Er) : FnV := some ("__init__", e.qual, defArgs e.st, .stmts (defBody e.st), defScope e.st)
def exB (K : Fr) (C : Addr) (newId : String) (tl : List Value → Bool) : Bool := match K.lookup C with
  | some ⟨.type t, _, .cls cd, sl⟩ => decide (t = "type") && (match cd.mro, sl.toList with
    | .ref C' :: bm, [_, _, _, _, some (.builtin n), _] => decide (C' = C) && (decide (n = newId) && (!cd.hasDel && (cd.hasDict && tl bm)))
    | _, _ => false)
  | _ => false
theorem exB_ok {K : Fr} {C : Addr} {newId : String} {tl : List Value → Bool} (h : exB K C newId tl = true) : ∃ nm q N bs bm sn sub ab col dd k0 k1 k2 k3 k5, K.lookup C = some (excClassObj nm q C N bs bm true sn sub ab col dd k0 k1 k2 k3 k5 newId) ∧ tl bm = true := by
  unfold exB at h
  cases e : K.lookup C with
  | none =>
    rw [e] at h
    cases h
  | some o =>
    obtain ⟨oc, od, dt, sl⟩ := o
    rw [e] at h
    cases oc with
    | type t =>
      cases dt with
      | cls cd =>
        obtain ⟨h1, h2⟩ := He.ba h
        have h1 := of_decide_eq_true h1
        subst h1
        split at h2
        · rename_i C' bm k0 k1 k2 k3 n k5 hm hs
          obtain ⟨g1, g⟩ := He.ba h2
          obtain ⟨g2, g⟩ := He.ba g
          obtain ⟨g3, g⟩ := He.ba g
          obtain ⟨g4, g5⟩ := He.ba g
          have i1 := of_decide_eq_true g1
          have i2 := of_decide_eq_true g2
          subst i1 i2
          obtain ⟨nm, bs, mro, ns, qn, hd, sn, sub, ab, col, del⟩ := cd
          dsimp only at hm g3 g4
          have g3 : del = false := by cases del with | false => rfl | true => cases g3
          subst hm g3 g4
          have hsl : sl = #[k0, k1, k2, k3, some (.builtin n), k5] := by
            obtain ⟨l⟩ := sl
            have hs : l = _ := hs
            rw [hs]
          subst hsl
          exact ⟨nm, qn, ns, bs, bm, sn, sub, ab, col, od, k0, k1, k2, k3, k5, rfl, g5⟩
        · cases h2
      | _ => cases h
    | _ => cases dt <;> cases h
/-- the __init__ of such a class, the cell of its class -/
def erFnB (K : Fr) (e : Er) (file : Str) : Bool := match K.lookup (e.f K) with
  | some ⟨_, _, .func fd, _⟩ => (match fd.closure, fd.code with
    | [(z, cc)], .ref cda => decide (z = "__class__") && (decide (fd.globals = mainGlobals) && (decide (fd.builtins = builtinsNs) && (decide (fd.defaults = .none) && (PySem.W.codeIn K (.ref cda) e.qual &&
      ((match K.lookup cda with
        | some ⟨_, _, .fields vs, _⟩ => (match (vs[2]? : Option Value) with
          | some (Value.str fl _) => file == fl
          | _ => false)
        | _ => false) && (match K.lookup cc with
        | some ⟨_, _, .cell (some (.ref C)), _⟩ => decide (C = e.C K)
        | _ => false))))))
    | _, _ => false)
  | _ => false
theorem erFn_ok {K : Fr} {e : Er} {file : Str} (hv : fnV K (e.f K) = e.val) (h : erFnB K e file = true) : ∃ fd, ∃ (oc : Value) (od : Option Addr) (kV doc pm ct : Value) (an : Option Addr) (osl : Array (Option Value)) (cda cc : Addr), fd = PySem.W.ksFn "__init__" e.qual (defArgs e.st) (defBody e.st) (defScope e.st) .none kV doc pm an (.ref cda) ct cc ∧ K.lookup (e.f K) = some ⟨oc, od, .func fd, osl⟩ ∧ PySem.W.codeIn K (.ref cda) e.qual = true ∧
    (∃ (ccl : Value) (cdd : Option Addr) (vs : Array Value) (ccs : Array (Option Value)) (fl : Str) (tf : Tok), K.lookup cda = some ⟨ccl, cdd, .fields vs, ccs⟩ ∧ vs[2]? = some (.str fl tf) ∧ (file == fl) = true) ∧
    ∃ (cl : Value) (cld : Option Addr) (csl : Array (Option Value)), K.lookup cc = some ⟨cl, cld, .cell (some (.ref (e.C K))), csl⟩ := by
  unfold erFnB at h
  unfold fnV at hv
  cases q : K.lookup (e.f K) with
  | none =>
    rw [q] at h
    cases h
  | some o =>
    obtain ⟨oc, od, dt, osl⟩ := o
    rw [q] at h hv
    cases dt with
    | func fd =>
      obtain ⟨n1, n2, n3, n4, n5, n6, n7, n8, n9, n10, n11, n12, n13, n14, n15⟩ := fd
      have e2 : (some (n1, n2, n3, n4, n5) : FnV) = (some (("__init__" : Str), e.qual, defArgs e.st, FuncBody.stmts (defBody e.st), defScope e.st) : FnV) := hv
      simp only [Option.some.injEq, Prod.mk.injEq] at e2
      obtain ⟨h1, h2, h3, h4, h5⟩ := e2
      subst h1 h2 h3 h4 h5
      dsimp only at h
      split at h
      · rename_i z cc cda
        obtain ⟨g1, g⟩ := He.ba h
        obtain ⟨g2, g⟩ := He.ba g
        obtain ⟨g3, g⟩ := He.ba g
        obtain ⟨g4, g⟩ := He.ba g
        obtain ⟨g5, g⟩ := He.ba g
        obtain ⟨g6, g7⟩ := He.ba g
        have i1 := of_decide_eq_true g1
        have i2 := of_decide_eq_true g2
        have i3 := of_decide_eq_true g3
        have i4 := of_decide_eq_true g4
        subst i1 i2 i3 i4
        refine ⟨_, oc, od, n9, n10, n11, n14, n12, osl, cda, cc, rfl, rfl, g5, ?_, ?_⟩
        · split at g6
          · rename_i u v vs w hq
            split at g6
            · rename_i fl tf hv2
              exact ⟨u, v, vs, w, fl, tf, hq, hv2, g6⟩
            · cases g6
          · cases g6
        · split at g7
          · rename_i u v C w hq
            have i7 := of_decide_eq_true g7
            subst i7
            exact ⟨u, v, w, hq⟩
          · cases g7
      · cases h
    | _ => cases h
def erB (e : Er) (file : Str) (tl : List Value → Bool) (K : Fr) : Bool := exB K (e.C K) e.newId tl && (He.eqO (PySem.W.findIn K (.ref (e.C K)) "__setattr__") (some (some (.builtin "object.__setattr__"))) && (decide (PySem.W.subIn K (.ref (e.C K)) (.type "BaseException") = some true) &&
  (decide (PySem.W.typeIn K (.ref (e.C K)) = some (.type "type")) && (PySem.W.keepIn K (.ref (e.C K)) && (decide (PySem.W.mroIn K (e.C K) (.ref (e.C K)) = some true) && (He.eqO (PySem.W.ks_superIn K (e.C K) (e.C K) "__init__") (some (some (.builtin e.initId))) &&
  (decide (PySem.W.subIn K (.ref (e.C K)) (.type e.base) = some true) && (He.eqO (PySem.W.nsIn K cStatics "thirdparty.any") (some none) && (He.eqO (PySem.W.nsIn K mainGlobals e.x) (some (some (.ref (e.C K)))) && (He.eqO (PySem.W.findIn K (.ref (e.C K)) "__init__") (some (some (.ref (e.f K)))) &&
  (decide (PySem.W.typeIn K (.ref (e.f K)) = some (.type "function")) && erFnB K e file)))))))))))
structure ErOk (K : Fr) (P : Program) (mg : Str → Option Value) (C f : Addr) (e : Er) (fd : FuncData) (X : Prop) : Prop where
  ec : X
  g : PySem.W.nsIn K mainGlobals e.x = some (some (.ref C))
  ei : PySem.W.findIn K (.ref C) "__init__" = some (some (.ref f))
  et : PySem.W.typeIn K (.ref f) = some (.type "function")
theorem erV_of {K : Fr} {P : Program} {mg : Str → Option Value} {e : Er} (hv : fnV K (e.f K) = e.val) (h : erB e P.main.file PySem.HandSPX.refsVE K = true) (hn : e.newId = "ValueError.__new__") (hi : e.initId = "ValueError.__init__") (hb : e.base = "ValueError") (ns : mg "super" = none) (tp : (P.main.scope.names.lookup ("super" : Str)).isSome = false) :
    ∃ fd, ErOk K P mg (e.C K) (e.f K) e fd (ErrC P K mg (e.C K) (e.f K) e.st e.qual fd) := by
  obtain ⟨h1, h⟩ := He.ba h
  obtain ⟨h2, h⟩ := He.ba h
  obtain ⟨h3, h⟩ := He.ba h
  obtain ⟨h4, h⟩ := He.ba h
  obtain ⟨h5, h⟩ := He.ba h
  obtain ⟨h6, h⟩ := He.ba h
  obtain ⟨h7, h⟩ := He.ba h
  obtain ⟨h8, h⟩ := He.ba h
  obtain ⟨h9, h⟩ := He.ba h
  obtain ⟨h10, h⟩ := He.ba h
  obtain ⟨h11, h⟩ := He.ba h
  obtain ⟨h12, h13⟩ := He.ba h
  obtain ⟨fd, hf⟩ := erFn_ok hv h13
  obtain ⟨nm, q, N, bs, bm, sn, sub, ab, col, dd, k0, k1, k2, k3, k5, l, lt⟩ := exB_ok h1
  have i7 := He.eqO_ok h7
  have i8 := of_decide_eq_true h8
  rw [hi] at i7
  rw [hb] at i8
  rw [hn] at l
  exact ⟨fd, ⟨⟨⟨⟨nm, q, N, bs, bm, sn, sub, ab, col, dd, k0, k1, k2, k3, k5, l, lt⟩, He.eqO_ok h2, of_decide_eq_true h3, of_decide_eq_true h4, h5⟩, of_decide_eq_true h6, i7, i8, He.eqO_ok h9, ns, tp, hf⟩, He.eqO_ok h10, He.eqO_ok h11, of_decide_eq_true h12⟩⟩
def rcF (K : Fr) (p : Addr) (T : String) : Addr := match PySem.W.recIn K p T with
  | some (.ref f :: _) => f
  | _ => 0
def rcB (K : Fr) (p : Addr) (T : String) : Bool := match PySem.W.recIn K p T with
  | some (.ref _ :: _) => true
  | _ => false
theorem rcB_ok {K : Fr} {p : Addr} {T : String} (h : rcB K p T = true) : ∃ rest, PySem.W.recIn K p T = some (.ref (rcF K p T) :: rest) := by
  unfold rcB at h
  unfold rcF
  split at h
  · rename_i f r e
    exact ⟨r, by rw [e]⟩
  · cases h
def tyV (K : Fr) (C : Addr) : Value := (PySem.W.typeIn K (.ref C)).getD .none
def clsU (K : Fr) (C : Addr) (f : Str) : Value := match PySem.W.findCls K (.ref C) (tyV K C) f with
  | some (.val u) => u
  | _ => .none
def clsVB (K : Fr) (C : Addr) (f : Str) (v : V) : Bool := match PySem.W.findCls K (.ref C) (tyV K C) f with
  | some (.val u) => He.relB v u
  | _ => false
theorem clsVB_ok {K : Fr} {C : Addr} {f : Str} {v : V} (h : clsVB K C f v = true) : ClX.CVal K C (tyV K C) f v (clsU K C f) := by
  unfold clsVB at h
  split at h
  · rename_i u e
    have eu : clsU K C f = u := by
      unfold clsU
      rw [e]
    rw [eu]
    exact ⟨e, He.relB_ok h⟩
  · cases h
def glV (K : Fr) (x : Str) (v : V) : Bool := match PySem.W.nsIn K mainGlobals x with
  | some (some u) => He.relB v u
  | _ => false
theorem glV_ok {K : Fr} {h : Heap} {mg : Str → Option Value} (X : K.In h) (G : h.Ns mainGlobals mg) {x : Str} {v : V} (c : glV K x v = true) : ∃ u, mg x = some u ∧ RelV v u := by
  unfold glV at c
  split at c
  · rename_i u e
    exact ⟨u, PySem.W.mg_of X G e, He.relB_ok c⟩
  · cases c
def frc {α : Type} (n : Nat) (k : Nat → α) : α := match n with
  | 0 => k 0
  | m + 1 => k (m + 1)
def addA (out : List Addr) (k : Nat → List Addr → List Addr) : List Addr → Nat → List Addr
  | [], vis => k vis out
  | a :: r, vis => match Nat.testBit vis a with
    | true => addA out k r vis
    | false => frc (vis ||| (1 <<< a)) (addA (a :: out) k r)
def refsN (g : Addr → Option Obj) (a : Addr) : List Addr := match g a with
  | some o => He.refsD o
  | none => []
/-- breadth first, a mask of what is known -/
def asN (g : Addr → Option Obj) : Nat → Nat → List Addr → List Addr → List Addr
  | 0, _, _, all => all
  | n + 1, vis, fr, all => addA [] (fun vis new => asN g n vis new (all ++ new)) (fr.flatMap (refsN g)) vis
def frK (n : Nat) (g : Addr → Option Obj) : Fr := He.frT g (asN g n ((1 <<< mainGlobals) ||| ((1 <<< cStatics) ||| ((1 <<< builtinsNs) ||| (1 <<< sysModules)))) [mainGlobals] [mainGlobals, cStatics])
abbrev Al : Type := Bool × List FnV
def obsK (dfs : List Df) (ers : List Er) (tst : Fr → List Bool) (K : Fr) : Al := ((dfs.all fun d => d.ok K) && (tst K).all id, dfs.map (fun d => fnV K (d.adr K)) ++ ers.map fun e => fnV K (e.f K))
def valK (dfs : List Df) (ers : List Er) : Al := (true, dfs.map Df.val ++ ers.map Er.val)
def obsH (n : Nat) (dfs : List Df) (ers : List Er) (tf : List He.Defn) (tst : Fr → List Bool) (g : Addr → Option Obj) : Al × Bool := (obsK dfs ers tst (frK n g), He.tabsB g tf (frK n g))
/-- what is told -/
structure Says (dfs : List Df) (ers : List Er) (tf : List He.Defn) (tst : Fr → List Bool) (h : Heap) (K : Fr) : Prop where
  ok : obsK dfs ers tst K = valK dfs ers
  hd : ∀ p ∈ tf, PySem.W.codeHdIn K (He.cT K p).1 (He.cT K p).2 = true
  out : ∀ p ∈ tf, K.lookup (He.cT K p).2 = none
  empty : ∀ p ∈ tf, h.get? (He.cT K p).2 = some { cls := .none, data := .fields #[] }
theorem says_of {n : Nat} {dfs : List Df} {ers : List Er} {tf : List He.Defn} {tst : Fr → List Bool} {h : Heap} (e : obsH n dfs ers tf tst h.get? = (valK dfs ers, true)) : Says dfs ers tf tst h (frK n h.get?) := by
  have e1 : obsK dfs ers tst (frK n h.get?) = valK dfs ers := congrArg (fun z : Al × Bool => z.1) e
  have e2 : He.tabsB h.get? tf (frK n h.get?) = true := congrArg (fun z : Al × Bool => z.2) e
  have key : ∀ p ∈ tf, PySem.W.codeHdIn (frK n h.get?) (He.cT (frK n h.get?) p).1 (He.cT (frK n h.get?) p).2 = true ∧ ∃ o, h.get? (He.cT (frK n h.get?) p).2 = some o ∧ He.emptyTab o = true := fun p hp => by
    obtain ⟨h3, h4⟩ := He.ba (List.all_eq_true.mp e2 p hp)
    refine ⟨h3, ?_⟩
    cases q : h.get? (He.cT (frK n h.get?) p).2 with
    | none =>
      rw [q] at h4
      cases h4
    | some o =>
      rw [q] at h4
      exact ⟨o, rfl, h4⟩
  exact ⟨e1, fun p hp => (key p hp).1, fun p hp => by
    obtain ⟨_, o, q, z⟩ := key p hp
    exact He.frT_none q z, fun p hp => by
    obtain ⟨_, o, q, z⟩ := key p hp
    rw [q, He.emptyTab_eq z]⟩
def hook (n : Nat) (dfs : List Df) (ers : List Er) (tf : List He.Defn) (tst : Fr → List Bool) : PySem.W.Hook where
  α := Al × Bool
  obs := fun s => obsH n dfs ers tf tst s.heap.get?
  val := fun _ => (valK dfs ers, true)
  says := fun _ h => ∃ K : Fr, K.In h ∧ Says dfs ers tf tst h K
  of := fun _ _ e => ⟨_, He.frT_in, says_of e⟩
  keeps := fun _ _ _ ⟨K, hK, c⟩ k => ⟨K, PySem.W.Frag.In.keeps hK k, ⟨c.ok, c.hd, c.out, fun p hp => k _ _ (c.empty p hp)⟩⟩
theorem obsH_eq {n : Nat} {dfs : List Df} {ers : List Er} {tf : List He.Defn} {tst : Fr → List Bool} {g : Addr → Option Obj} {s : Shared} (h : ∀ a, g a = s.heap.get? a) : obsH n dfs ers tf tst g = (hook n dfs ers tf tst).obs s := by
  have e : g = s.heap.get? := funext h
  rw [e] <;> rfl
section
variable {dfs : List Df} {ers : List Er} {tf : List He.Defn} {tst : Fr → List Bool} {h : Heap} {K : Fr}
theorem Says.t (c : Says dfs ers tf tst h K) (i : Nat) {b : Bool} (e : (tst K)[i]? = some b := by rfl) : b = true := by
  have c1 := (He.ba (show ((dfs.all fun d => d.ok K) && (tst K).all id) = true from congrArg (fun z : Al => z.1) c.ok)).2
  exact List.all_eq_true.mp c1 b (List.mem_of_getElem? e)
theorem Says.vals (c : Says dfs ers tf tst h K) : dfs.map (fun d => fnV K (d.adr K)) = dfs.map Df.val ∧ ers.map (fun e => fnV K (e.f K)) = ers.map Er.val := by
  have e : dfs.map (fun d => fnV K (d.adr K)) ++ ers.map (fun e => fnV K (e.f K)) = dfs.map Df.val ++ ers.map Er.val := congrArg (fun z : Al => z.2) c.ok
  exact List.append_inj e (by rw [List.length_map, List.length_map])
theorem Says.fn (c : Says dfs ers tf tst h K) (i : Nat) {d : Df} (e : dfs[i]? = some d := by rfl) : ∃ fd, FunD K d.name d.qual (defArgs d.st) (defBody d.st) (defScope d.st) d.dfl d.kws (d.adr K) fd := by
  have c1 := (He.ba (show ((dfs.all fun d => d.ok K) && (tst K).all id) = true from congrArg (fun z : Al => z.1) c.ok)).1
  have e2 : (dfs.map (fun d => fnV K (d.adr K)))[i]? = (dfs.map Df.val)[i]? := by rw [c.vals.1]
  rw [List.getElem?_map, List.getElem?_map, e] at e2
  exact Df.funD (Option.some.inj e2) (List.all_eq_true.mp c1 d (List.mem_of_getElem? e))
theorem Says.er (c : Says dfs ers tf tst h K) (i : Nat) {d : Er} (e : ers[i]? = some d := by rfl) : fnV K (d.f K) = d.val := by
  have e2 : (ers.map (fun e => fnV K (e.f K)))[i]? = (ers.map Er.val)[i]? := by rw [c.vals.2]
  rw [List.getElem?_map, List.getElem?_map, e] at e2
  exact Option.some.inj e2
/-- a def without defaults -/
theorem Says.fun0 (c : Says dfs ers tf tst h K) (i : Nat) {d : Df} (e : dfs[i]? = some d := by rfl) (hd : d.dfl = [] := by rfl) (hk : d.kws = [] := by rfl) : ∃ fd, Fun K d.name d.qual d.st (d.adr K) fd := by
  obtain ⟨fd, F⟩ := c.fn i e
  rw [hd, hk] at F
  exact ⟨fd, He5.fun_of F⟩
end
end Hd
namespace Nc
open PySem PySem.Spec PyProof.Rows L2
def h_identity : M Out := (retS (k1 tupleD (opdM (frzM (lcM (rngI (var 0)) (bndN 1) (M.ret true) (b2 shlD (M.ret (dN 1)) (var 1)) [1])))))
def F_identity : Fn := runB 2 1 h_identity
def h_relation_of : M Out := (thenS
  (setN 2 (lstM (M.ret [])))
  (thenS
  (forS (rngI (var 0)) (bndN 3) (thenS
  (setS 4 (frzM (ssM (seqI (var 1)) (bndT [5, 6]) (tst (k2 eqD (varK 5) (varK 3))) (var 6) [5, 6])))
  (dropS (lm1 appOp (refS 2) (k1 sumD (opdM (frzM (lcM (seqI (var 4)) (bndN 6) (M.ret true) (b2 shlD (M.ret (dN 1)) (var 6)) [6]))))))))
  (retS (k1 tupleD (varK 2)))))
def F_relation_of : Fn := runB 7 2 h_relation_of
def h_bits_of : M Out := (retS (frzM (lcM (rngI (var 1)) (bndN 2) (tst (k2 eqD (opdM (b2 andD (b2 shrD (var 0) (var 2)) (M.ret (dN 1)))) (opdM (M.ret (dN 1))))) (var 2) [2])))
def F_bits_of : Fn := runB 3 2 h_bits_of
def h_image : M Out := (thenS
  (setS 2 (M.ret (dN 0)))
  (thenS
  (forS (seqI (callM F_bits_of (consM (var 0) (consM (k1 lenD (varK 1)) (M.ret []))))) (bndN 3) (setS 2 (b2 orD (var 2) (k2 ixD (varK 1) (varK 3)))))
  (retS (var 2))))
def F_image : Fn := runB 4 2 h_image
def h_joined : M Out := (retS (k1 tupleD (opdM (frzM (lcM (seqI (var 0)) (bndN 2) (M.ret true) (callM F_image (consM (var 2) (consM (var 1) (M.ret [])))) [2])))))
def F_joined : Fn := runB 3 2 h_joined
def h_law_open : M Out := (thenS
  (setS 2 (b2 addD (M.ret (dN 5644)) (b2 mulD (M.ret (dN 89)) (k1 lenD (varK 1)))))
  (thenS
  (forS (seqI (var 1)) (bndN 3) (setS 2 (b2 modD (k1 intD (opdM (b2 addD (b2 mulD (var 2) (M.ret (dN 7919))) (var 3)))) (M.ret (dN 2147483587)))))
  (retS (frzM (lstM (consM (var 1) (consM (M.ret (dN 0)) (consM (M.ret (dN 0)) (consM (var 2) (M.ret []))))))))))
def h_law_pull : M Out := (thenS
  (ifM (tst (b2 ltD (k2 ixD (varK 0) (opdM (M.ret (dN 2)))) (M.ret (dN 2)))) (thenS
  (itemS (refS 0) (b2 addD (k2 ixD (varK 0) (opdM (M.ret (dN 1)))) (M.ret (dN 1))) (M.ret (dN 1)))
  (thenS
  (setS 2 (b2 addD (k2 ixD (varK 0) (opdM (M.ret (dN 3)))) (b2 mulD (k2 ixD (varK 0) (opdM (M.ret (dN 1)))) (M.ret (dN 7001)))))
  (thenS
  (ifM (tst (b2 leD (k2 ixD (varK 0) (opdM (M.ret (dN 1)))) (k1 lenD (opdM (k2 ixD (varK 0) (opdM (M.ret (dN 0)))))))) (setS 2 (k2 ixD (opdM (k2 ixD (varK 0) (opdM (M.ret (dN 0))))) (opdM (b2 subD (k2 ixD (varK 0) (opdM (M.ret (dN 1)))) (M.ret (dN 1)))))) (M.ret .nx))
  (thenS
  (ifM (orM (tst (b2 gtD (k2 ixD (varK 0) (opdM (M.ret (dN 1)))) (k1 lenD (opdM (k2 ixD (varK 0) (opdM (M.ret (dN 0)))))))) (tst (b2 ltD (var 2) (b2 powD (M.ret (dN 10)) (M.ret (dN 18)))))) (thenS
  (setS 3 (b2 modD (k1 intD (opdM (b2 addD (b2 addD (b2 mulD (var 2) (M.ret (dN 39373))) (b2 mulD (k2 ixD (varK 0) (opdM (M.ret (dN 1)))) (M.ret (dN 52774)))) (k2 ixD (varK 0) (opdM (M.ret (dN 3))))))) (M.ret (dN 2147483563))))
  (thenS
  (setS 4 (b2 modD (k1 intD (opdM (b2 addD (b2 mulD (var 3) (var 3)) (b2 mulD (k2 ixD (varK 0) (opdM (M.ret (dN 1)))) (M.ret (dN 15331)))))) (M.ret (dN 1000000007))))
  (retS (b2 modD (b2 fdivD (b2 modD (k1 intD (opdM (b2 addD (b2 mulD (var 4) (M.ret (dN 40014))) (var 3)))) (M.ret (dN 2147483399))) (M.ret (dN 17))) (var 1))))) (M.ret .nx))
  (itemS (refS 0) (var 2) (M.ret (dN 2))))))) (M.ret .nx))
  (thenS
  (setS 5 (b2 modD (k1 intD (opdM (k2 ixD (varK 0) (opdM (M.ret (dN 2)))))) (var 1)))
  (thenS
  (itemS (refS 0) (b2 fdivD (k1 intD (opdM (k2 ixD (varK 0) (opdM (M.ret (dN 2)))))) (var 1)) (M.ret (dN 2)))
  (retS (var 5)))))
def F_law_pull : Fn := runB 6 2 h_law_pull
def h_law_pick : M Out := (retS (k2 ixD (varK 1) (opdM (callM F_law_pull (consM (var 0) (consM (k1 lenD (varK 1)) (M.ret [])))))))
def F_law_pick : Fn := runB 2 2 h_law_pick
def h_law_like (F_self : Fn) : M Out := (thenS
  (ifM (tst (k1 (isiD2 "list" "tuple") (varK 1))) (thenS
  (ifM (orM (tst (k2 neD (opdM (k1 (isiD "list") (varK 0))) (opdM (k1 (isiD "list") (varK 1))))) (tst (k2 neD (opdM (k1 (isiD "tuple") (varK 0))) (opdM (k1 (isiD "tuple") (varK 1)))))) (retS (M.ret (.bl false))) (M.ret .nx))
  (retS (andV (k2 eqD (opdM (k1 lenD (varK 0))) (opdM (k1 lenD (varK 1)))) (k1 allD (opdM (frzM (lcM (rngI (k1 lenD (varK 1))) (bndN 2) (M.ret true) (callM F_self (consM (k2 ixD (varK 0) (varK 2)) (consM (k2 ixD (varK 1) (varK 2)) (M.ret [])))) [2]))))))) (M.ret .nx))
  (thenS
  (ifM (orM (tst (k1 (isiD2 "list" "tuple") (varK 0))) (tst (k2 neD (opdM (k1 (isiD "bool") (varK 0))) (opdM (k1 (isiD "bool") (varK 1)))))) (retS (M.ret (.bl false))) (M.ret .nx))
  (retS (k2 eqD (varK 0) (varK 1)))))
def Fn_law_like : Nat → Fn
  | 0 => fun _ _ => .no
  | n + 1 => runB 3 2 (h_law_like (Fn_law_like n))
abbrev F_law_like : Fn := Fn_law_like 6
def h_law_image : M Out := (thenS
  (setS 2 (M.ret (dN 0)))
  (thenS
  (forS (rngI (k1 lenD (varK 1))) (bndN 3) (ifM (tst (k2 eqD (opdM (b2 andD (b2 shrD (var 0) (var 3)) (M.ret (dN 1)))) (opdM (M.ret (dN 1))))) (setS 2 (b2 orD (var 2) (k2 ixD (varK 1) (varK 3)))) (M.ret .nx)))
  (retS (var 2))))
def F_law_image : Fn := runB 4 2 h_law_image
def h_law_chain : M Out := (retS (k1 tupleD (opdM (frzM (lcM (seqI (var 0)) (bndN 2) (M.ret true) (callM F_law_image (consM (var 2) (consM (var 1) (M.ret [])))) [2])))))
def F_law_chain : Fn := runB 3 2 h_law_chain
end Nc
namespace Nc
open PySem PySem.Spec PyProof.Rows L2
structure Box where
  cells : List Int
  i : Nat
  r : Int
  s : Int
abbrev Box.o (b : Box) : O := .lst [.lst (b.cells.map D.int), dN b.i, .int b.r, .int b.s]
theorem add_ii {a b : Int} : addD (.int a) (.int b) = some (.int (a + b)) := Eq.trans (Eq.refl _) (Eq.refl _)
theorem sub_ii {a b : Int} : subD (.int a) (.int b) = some (.int (a - b)) := by simp only [subD, i2, if_true]
theorem mul_il {a b : Int} (h : small64i a = true) : mulD (.int a) (.int b) = some (.int (a * b)) := by simp only [mulD, h, Bool.true_or, if_true]
theorem mul_ir {a b : Int} (h : small64i b = true) : mulD (.int a) (.int b) = some (.int (a * b)) := by simp only [mulD, h, Bool.or_true, if_true]
theorem lt_ii {a b : Int} : ltD (.int a) (.int b) = some (dB (decide (a < b))) := by simp only [ltD, cmpI]
theorem le_ii {a b : Int} : leD (.int a) (.int b) = some (dB (decide (a ≤ b))) := by simp only [leD, cmpI]
theorem gt_ii {a b : Int} : gtD (.int a) (.int b) = some (dB (decide (b < a))) := by simp only [gtD, cmpI]
theorem mod_ii {a b : Int} (h : 0 < b) : modD (.int a) (.int b) = some (.int (a % b)) := by simp only [modD, i2, decide_eq_true h, if_true]
theorem fdiv_ii {a b : Int} (h : 0 < b) (h2 : b.natAbs < 10 ^ 40) : fdivD (.int a) (.int b) = some (.int (a / b)) := by
  have c : (decide (0 < b) && decide (b.natAbs.log2 < 9000)) = true := by rw [decide_eq_true h, decide_eq_true (log2_small h2)]; rfl
  simp only [fdivD, i2, c, if_true]
theorem pow1018 : powD (dN 10) (dN 18) = some (.int 1000000000000000000) := by
  rw [pow_nn (by decide) (by decide)]
  rfl
def oneV (c i s : Int) : Int := (c * 39373 + i * 52774 + s) % 2147483563
def twoV (o i : Int) : Int := (o * o + i * 15331) % 1000000007
def drawV (c i s many : Int) : Int := (twoV (oneV c i s) i * 40014 + oneV c i s) % 2147483399 / 17 % many
/-- one draw -/
def Box.pull (b : Box) (m : Int) : Int × Box :=
  if b.r < 2 then
    if h : b.i < b.cells.length then
      if b.cells[b.i] < 1000000000000000000 then (drawV b.cells[b.i] (b.i + 1) b.s m, ⟨b.cells, b.i + 1, b.r, b.s⟩)
      else (b.cells[b.i] % m, ⟨b.cells, b.i + 1, b.cells[b.i] / m, b.s⟩)
    else (drawV (b.s + (b.i + 1) * 7001) (b.i + 1) b.s m, ⟨b.cells, b.i + 1, b.r, b.s⟩)
  else (b.r % m, ⟨b.cells, b.i, b.r / m, b.s⟩)
theorem pull_bd (b : Box) {m : Int} (h : 0 < m) : 0 ≤ (b.pull m).1 ∧ (b.pull m).1 < m := by
  have q : ∀ x : Int, 0 ≤ x % m ∧ x % m < m := fun x => ⟨Int.emod_nonneg _ (by omega), Int.emod_lt_of_pos _ h⟩
  unfold Box.pull
  split
  · split
    · split
      · exact q _
      · exact q _
    · exact q _
  · exact q _
section
variable {b : Box} {m : Int} {g : Cells}
theorem small_one (x : Int) : small64i (x % 2147483563) = true := by
  have := Int.emod_nonneg x (show (2147483563 : Int) ≠ 0 by decide)
  have := Int.emod_lt_of_pos x (show (0 : Int) < 2147483563 by decide)
  unfold small64i
  rw [Bool.and_eq_true, decide_eq_true_eq, decide_eq_true_eq]
  omega
theorem pull_run (h : 0 < m) (h2 : m.natAbs < 10 ^ 40) : F_law_pull [.ptr 0, .int m] (b.o :: g) = .ok (.int (b.pull m).1) ((b.pull m).2.o :: g) := by
  have s1 : small64i ((39373 : Nat) : Int) = true := by decide
  have s2 : small64i ((52774 : Nat) : Int) = true := by decide
  have s3 : small64i ((15331 : Nat) : Int) = true := by decide
  have s4 : small64i ((40014 : Nat) : Int) = true := by decide
  have s5 : small64i ((7001 : Nat) : Int) = true := by decide
  have p1 : (0 : Int) < ((2147483563 : Nat) : Int) := by decide
  have p2 : (0 : Int) < ((1000000007 : Nat) : Int) := by decide
  have p3 : (0 : Int) < ((2147483399 : Nat) : Int) := by decide
  have p4 : (0 : Int) < ((17 : Nat) : Int) := by decide
  have p5 : ((17 : Nat) : Int).natAbs < 10 ^ 40 := by decide
  have so : ∀ x : Int, small64i (x % ((2147483563 : Nat) : Int)) = true := small_one
  have e1 : (b.i : Int) + ((1 : Nat) : Int) - ((1 : Nat) : Int) = b.i := by omega
  unfold Box.pull
  by_cases hr : b.r < 2
  · have d1 : decide (b.r < ((2 : Nat) : Int)) = true := decide_eq_true hr
    rw [if_pos hr]
    by_cases hi : b.i < b.cells.length
    · have d2 : decide ((b.i : Int) + ((1 : Nat) : Int) ≤ (b.cells.length : Int)) = true := decide_eq_true (by omega)
      have d3 : decide ((b.cells.length : Int) < (b.i : Int) + ((1 : Nat) : Int)) = false := decide_eq_false (by omega)
      rw [dif_pos hi]
      by_cases hc : b.cells[b.i] < 1000000000000000000
      · have d4 : decide (b.cells[b.i] < 1000000000000000000) = true := decide_eq_true hc
        rw [if_pos hc]
        apply run_sat rfl rfl
        simp only [EV1, EV2, EV3, EV4, EV5, EV6, EV7, EV8, EV9, EV10, EV11, EV12, EV13, EV14, EV15, EV16, EV17, EV18, EV19, EV20, EV21, EV22, EV23, vals, List.replicate, Nat.reduceBEq, Nat.reduceAdd, Nat.reduceLT, Nat.reduceSub, Nat.reduceMul, Nat.reduceLeDiff, Nat.reduceEqDiff, h_law_pull, ixl_n, lt_ii, d1, setIx_n, add_ii, mul_ir s5, mul_ir s1, mul_ir s2, mul_ir s3, mul_ir s4, mul_il (so _), len_lst, List.length_map, le_ii, gt_ii, d2, d3, sub_ii, e1, List.getElem?_map, List.getElem?_eq_getElem hi, d4, pow1018, mod_ii p1, mod_ii p2, mod_ii p3, fdiv_ii p4 p5, mod_ii h, int_int]
        constructor <;> simp [drawV, twoV, oneV]
      · have d4 : decide (b.cells[b.i] < 1000000000000000000) = false := decide_eq_false hc
        rw [if_neg hc]
        apply run_sat rfl rfl
        simp only [EV1, EV2, EV3, EV4, EV5, EV6, EV7, EV8, EV9, EV10, EV11, EV12, EV13, EV14, EV15, EV16, EV17, EV18, EV19, EV20, EV21, EV22, EV23, vals, List.replicate, Nat.reduceBEq, Nat.reduceAdd, Nat.reduceLT, Nat.reduceSub, Nat.reduceMul, Nat.reduceLeDiff, Nat.reduceEqDiff, h_law_pull, ixl_n, lt_ii, d1, setIx_n, add_ii, mul_ir s5, len_lst, List.length_map, le_ii, gt_ii, d2, d3, sub_ii, e1, List.getElem?_map, List.getElem?_eq_getElem hi, d4, pow1018, mod_ii h, fdiv_ii h h2, int_int]
        constructor <;> simp [drawV, twoV, oneV]
    · have d2 : decide ((b.i : Int) + ((1 : Nat) : Int) ≤ (b.cells.length : Int)) = false := decide_eq_false (by omega)
      have d3 : decide ((b.cells.length : Int) < (b.i : Int) + ((1 : Nat) : Int)) = true := decide_eq_true (by omega)
      rw [dif_neg hi]
      apply run_sat rfl rfl
      simp only [EV1, EV2, EV3, EV4, EV5, EV6, EV7, EV8, EV9, EV10, EV11, EV12, EV13, EV14, EV15, EV16, EV17, EV18, EV19, EV20, EV21, EV22, EV23, vals, List.replicate, Nat.reduceBEq, Nat.reduceAdd, Nat.reduceLT, Nat.reduceSub, Nat.reduceMul, Nat.reduceLeDiff, Nat.reduceEqDiff, h_law_pull, ixl_n, lt_ii, d1, setIx_n, add_ii, mul_ir s5, mul_ir s1, mul_ir s2, mul_ir s3, mul_ir s4, mul_il (so _), len_lst, List.length_map, le_ii, gt_ii, d2, d3, mod_ii p1, mod_ii p2, mod_ii p3, fdiv_ii p4 p5, mod_ii h, int_int]
      constructor <;> simp [drawV, twoV, oneV]
  · have d1 : decide (b.r < ((2 : Nat) : Int)) = false := decide_eq_false hr
    rw [if_neg hr]
    apply run_sat rfl rfl
    simp only [EV1, EV2, EV3, EV4, EV5, EV6, EV7, EV8, EV9, EV10, EV11, EV12, EV13, EV14, EV15, EV16, EV17, EV18, EV19, EV20, EV21, EV22, EV23, vals, List.replicate, Nat.reduceBEq, Nat.reduceAdd, Nat.reduceLT, Nat.reduceSub, Nat.reduceMul, Nat.reduceLeDiff, Nat.reduceEqDiff, h_law_pull, ixl_n, lt_ii, d1, setIx_n, mod_ii h, fdiv_ii h h2, int_int]
    constructor <;> simp [drawV, twoV, oneV]
end
def Box.draw (b : Box) (m : Nat) : Nat := (b.pull m).1.toNat
def Box.nx (b : Box) (m : Nat) : Box := (b.pull m).2
theorem draw_lt {b : Box} {m : Nat} (h : 0 < m) : b.draw m < m := by
  have := pull_bd b (m := m) (by omega)
  unfold Box.draw
  omega
theorem draw_run {b : Box} {m : Nat} {g : Cells} (h : 0 < m) (h2 : m < 10 ^ 40) : F_law_pull [.ptr 0, dN m] (b.o :: g) = .ok (dN (b.draw m)) ((b.nx m).o :: g) := by
  rw [pull_run (by omega) (by rw [Int.natAbs_natCast]; exact h2)]
  have := pull_bd b (m := m) (by omega)
  unfold Box.draw Box.nx
  rw [dN, Int.toNat_of_nonneg this.1]
end Nc
namespace Nc
open PySem PySem.Spec PyProof.Rows L2
noncomputable section
def h_law_same_rel : M Out := (retS (k1 tupleD (opdM (frzM (lcM (rngI (var 0)) (bndN 1) (M.ret true) (b2 shlD (M.ret (dN 1)) (var 1)) [1])))))
def F_law_same_rel : Fn := runB 2 1 h_law_same_rel
end
end Nc
namespace Nc
open PySem PySem.Spec PyProof.Rows L2
end Nc
namespace Nc
open PySem PySem.Spec PyProof.Rows L2
noncomputable section
def h_law_letters : M Out := (thenS
  (setS 2 (frzM (lstM (consM (frzM (lstM (consM (M.ret (.str "a")) (consM (M.ret (.str "b")) (consM (M.ret (.str "z")) (M.ret [])))))) (consM (frzM (lstM (consM (M.ret (.str "ab")) (consM (M.ret (.str "bz")) (consM (M.ret (.str "an")) (M.ret [])))))) (consM (frzM (lstM (consM (M.ret (.str "abc")) (consM (M.ret (.str "axz")) (consM (M.ret (.str "bcd")) (M.ret [])))))) (consM (frzM (lstM (consM (M.ret (.str "abcd")) (consM (M.ret (.str "amyz")) (consM (M.ret (.str "wxyz")) (M.ret [])))))) (M.ret []))))))))
  (retS (callM F_law_pick (consM (var 0) (consM (k2 ixD (varK 2) (opdM (b2 subD (var 1) (M.ret (dN 1))))) (M.ret []))))))
def F_law_letters : Fn := runB 3 2 h_law_letters
def h_law_some : M Out := (retS (frzM (lcM (rngI (var 1)) (bndN 2) (tst (b2 gtD (callM F_law_pull (consM (var 0) (consM (M.ret (dN 3)) (M.ret [])))) (M.ret (dN 0)))) (var 2) [2])))
def F_law_some : Fn := runB 3 2 h_law_some
def h_law_plan : M Out := (thenS
  (setS 3 (callM F_law_letters (consM (var 0) (consM (b2 addD (M.ret (dN 1)) (callM F_law_pull (consM (var 0) (consM (var 2) (M.ret []))))) (M.ret [])))))
  (thenS
  (par3S 4 5 6 (consM (b2 addD (M.ret (dN 1)) (callM F_law_pull (consM (var 0) (consM (var 1) (M.ret []))))) (consM (callM F_law_pull (consM (var 0) (consM (M.ret (dN 4)) (M.ret [])))) (consM (frzM (lstM (M.ret []))) (M.ret [])))))
  (thenS
  (forS (seqI (var 3)) (bndN 7) (forS (rngI (var 4)) (bndN 8) (thenS
  (setS 9 (frzM (lcM (rngI (var 4)) (bndN 10) (tst (k2 eqD (opdM (callM F_law_pull (consM (var 0) (consM (M.ret (dN 2)) (M.ret []))))) (opdM (M.ret (dN 0))))) (var 10) [10])))
  (thenS
  (ifM (andM (tst (k2 eqD (varK 9) (opdM (frzM (lstM (M.ret [])))))) (tst (b2 gtD (var 5) (M.ret (dN 0))))) (setS 9 (frzM (lstM (consM (callM F_law_pull (consM (var 0) (consM (var 4) (M.ret [])))) (M.ret []))))) (M.ret .nx))
  (setS 6 (b2 addD (var 6) (frzM (lcM (seqI (var 9)) (bndN 10) (M.ret true) (tupM (consM (var 8) (consM (var 7) (consM (var 10) (M.ret []))))) [10]))))))))
  (thenS
  (ifM (tst (b2 gtD (var 5) (M.ret (dN 1)))) (retS (tupM (consM (var 3) (consM (var 4) (consM (frzM (k1 sortDO (varK 6))) (consM (callM F_law_some (consM (var 0) (consM (var 4) (M.ret [])))) (consM (frzM (listRngM (var 4))) (M.ret [])))))))) (M.ret .nx))
  (retS (tupM (consM (var 3) (consM (var 4) (consM (frzM (k1 sortDO (varK 6))) (consM (callM F_law_some (consM (var 0) (consM (var 4) (M.ret [])))) (consM (callM F_law_some (consM (var 0) (consM (var 4) (M.ret [])))) (M.ret []))))))))))))
def F_law_plan : Fn := runB 11 3 h_law_plan
def h_is_letters : M Out := (thenS
  (ifM (orM (notM (tst (chM leD leD (M.ret (dN 1)) (k1 lenD (varK 0)) (M.ret (dN 4))))) (notM (tst (k1 allD (opdM (frzM (lcM (seqI (var 0)) (bndN 1) (M.ret true) (k2 inD (varK 1) (opdM (M.ret (.str "abcdefghijklmnopqrstuvwxyz")))) [1]))))))) (retS (M.ret (.bl false))) (M.ret .nx))
  (retS (k1 allD (opdM (frzM (lcM (zipSI (var 0) (slM (varK 0) (partM (M.ret (dN 1))) (M.ret none))) (bndT [2, 3]) (M.ret true) (b2 ltD (var 2) (var 3)) [2, 3]))))))
def F_is_letters : Fn := runB 4 1 h_is_letters
def h_is_number : M Out := (retS (andV (k1 (isiD "int") (varK 0)) (andV (notV (k1 (isiD "bool") (varK 0))) (chM leD leD (var 1) (var 0) (var 2)))))
def F_is_number : Fn := runB 3 3 h_is_number
def h_is_step : M Out := (thenS
  (ifM (orM (notM (tst (k1 (isiD "tuple") (varK 0)))) (orM (tst (k2 neD (opdM (k1 lenD (varK 0))) (opdM (M.ret (dN 3))))) (notM (tst (k1 (isiD "str") (opdM (k2 ixD (varK 0) (opdM (M.ret (dN 1)))))))))) (retS (M.ret (.bl false))) (M.ret .nx))
  (thenS
  (asgS (bndT [3, 4, 5]) (var 0))
  (retS (andV (callM F_is_number (consM (var 3) (consM (M.ret (dN 0)) (consM (b2 subD (var 2) (M.ret (dN 1))) (M.ret []))))) (andV (k2 inD (varK 4) (opdM (frzM (k1 listTO (varK 1))))) (callM F_is_number (consM (var 5) (consM (M.ret (dN 0)) (consM (b2 subD (var 2) (M.ret (dN 1))) (M.ret []))))))))))
def F_is_step : Fn := runB 6 3 h_is_step
def h_Rule___init__ (T : Nat → Addr) : M Out := (thenS
  (ifM (notM (tst (callM F_is_letters (consM (var 1) (M.ret []))))) (raiseM (T 21) 21 (some "given") "InvalidLetters" (consM (var 1) (M.ret []))) (M.ret .nx))
  (thenS
  (ifM (notM (tst (callM F_is_number (consM (var 2) (consM (M.ret (dN 1)) (consM (M.ret (dN 12)) (M.ret []))))))) (raiseM (T 22) 22 (some "given") "InvalidCount" (consM (var 2) (M.ret []))) (M.ret .nx))
  (thenS
  (forS (enumI (var 3)) (bndT [6, 7]) (ifM (notM (tst (callM F_is_step (consM (var 7) (consM (var 1) (consM (var 2) (M.ret []))))))) (raiseM (T 23) 23 (some "at") "InvalidStep" (consM (var 6) (M.ret []))) (M.ret .nx)))
  (thenS
  (forS (seqI (b2 addD (frzM (k1 listTO (varK 4))) (frzM (k1 listTO (varK 5))))) (bndN 8) (ifM (notM (tst (callM F_is_number (consM (var 8) (consM (M.ret (dN 0)) (consM (b2 subD (var 2) (M.ret (dN 1))) (M.ret []))))))) (raiseM (T 24) 24 (some "given") "InvalidState" (consM (var 8) (M.ret []))) (M.ret .nx)))
  (thenS
  (fstM (T 0) "own_letters" (refS 0) (var 1))
  (thenS
  (fstM (T 0) "own_states" (refS 0) (var 2))
  (thenS
  (fstM (T 0) "rows" (refS 0) (frzM (listRngM (var 2))))
  (thenS
  (fstM (T 0) "by_letter" (refS 0) (frzM (dcM (seqI (var 1)) (bndN 9) (M.ret true) (var 9) (callM F_relation_of (consM (var 2) (consM (frzM (lcM (seqI (var 3)) (bndT [10, 11, 12]) (tst (k2 eqD (varK 11) (varK 9))) (tupM (consM (var 10) (consM (var 12) (M.ret [])))) [10, 11, 12])) (M.ret [])))) [9])))
  (thenS
  (fstM (T 0) "first_bits" (refS 0) (k2 ixD (opdM (callM F_relation_of (consM (var 2) (consM (frzM (lcM (seqI (var 4)) (bndN 8) (M.ret true) (tupM (consM (M.ret (dN 0)) (consM (var 8) (M.ret [])))) [8])) (M.ret []))))) (opdM (M.ret (dN 0)))))
  (fstM (T 0) "last_bits" (refS 0) (k2 ixD (opdM (callM F_relation_of (consM (var 2) (consM (frzM (lcM (seqI (var 5)) (bndN 8) (M.ret true) (tupM (consM (M.ret (dN 0)) (consM (var 8) (M.ret [])))) [8])) (M.ret []))))) (opdM (M.ret (dN 0))))))))))))))
def F_Rule___init__ (T : Nat → Addr) : Fn := runB 13 6 (h_Rule___init__ T)
def h_law_made (T : Nat → Addr) : M Out := (retS (frzM (mkN (T 0) (F_Rule___init__ T) (consM (k2 ixD (varK 0) (opdM (M.ret (dN 0)))) (consM (k2 ixD (varK 0) (opdM (M.ret (dN 1)))) (consM (k2 ixD (varK 0) (opdM (M.ret (dN 2)))) (consM (k2 ixD (varK 0) (opdM (M.ret (dN 3)))) (consM (k2 ixD (varK 0) (opdM (M.ret (dN 4)))) (M.ret [])))))))))
def F_law_made (T : Nat → Addr) : Fn := runB 1 1 (h_law_made T)
def h_law_text : M Out := (retS (joinM (M.ret (.str "")) (frzM (lcM (rngI (callM F_law_pull (consM (var 0) (consM (b2 addD (var 2) (M.ret (dN 1))) (M.ret []))))) (bndN 3) (M.ret true) (callM F_law_pick (consM (var 0) (consM (var 1) (M.ret [])))) [3]))))
def F_law_text : Fn := runB 4 3 h_law_text
def h_Rule_check_text (T : Nat → Addr) : M Out := (forS (enumI (var 1)) (bndT [2, 3]) (ifM (tst (k2 notInD (varK 3) (opdM (k1 (fldD (T 0) "own_letters") (varK 0))))) (raiseM (T 25) 25 (some "at") "InvalidText" (consM (var 2) (M.ret []))) (M.ret .nx)))
def F_Rule_check_text (T : Nat → Addr) : Fn := runB 4 2 (h_Rule_check_text T)
def h_Rule_ahead (T : Nat → Addr) : M Out := (thenS
  (setN 3 (lstM (consM (var 2) (M.ret []))))
  (thenS
  (forS (seqI (k1 revD (varK 1))) (bndN 4) (thenS
  (setS 5 (k2 dgD (opdM (k1 (fldD (T 0) "by_letter") (varK 0))) (varK 4)))
  (dropS (lm1 appOp (refS 3) (k1 sumD (opdM (frzM (lcM (rngI (k1 (fldD (T 0) "own_states") (varK 0))) (bndN 6) (tst (k2 neD (opdM (b2 andD (k2 ixD (varK 5) (varK 6)) (k2 ixD (varK 3) (opdM ((M.ret (dN 1)) >>= fun d => M.opt (negD d)))))) (opdM (M.ret (dN 0))))) (b2 shlD (M.ret (dN 1)) (var 6)) [6]))))))))
  (retS (k1 revD (varK 3)))))
def F_Rule_ahead (T : Nat → Addr) : Fn := runB 7 3 (h_Rule_ahead T)
def h_Rule_run (T : Nat → Addr) : M Out := (thenS
  (dropS (methM (T 0) "check_text" (F_Rule_check_text T) (var 0) (consM (var 1) (M.ret []))))
  (thenS
  (setS 4 (k1 sumD (opdM (frzM (lcM (seqI (frzM (ssM (seqI (var 3)) (bndN 10) (M.ret true) (var 10) [10]))) (bndN 10) (M.ret true) (b2 shlD (M.ret (dN 1)) (var 10)) [10])))))
  (thenS
  (setS 5 (methM (T 0) "ahead" (F_Rule_ahead T) (var 0) (consM (var 1) (consM (var 4) (M.ret [])))))
  (thenS
  (setS 6 (frzM (lcM (seqI (frzM (ssM (seqI (var 2)) (bndN 10) (M.ret true) (var 10) [10]))) (bndN 10) (tst (k2 eqD (opdM (b2 andD (b2 shrD (k2 ixD (varK 5) (opdM (M.ret (dN 0)))) (var 10)) (M.ret (dN 1)))) (opdM (M.ret (dN 1))))) (var 10) [10])))
  (thenS
  (ifM (tst (k2 eqD (varK 6) (opdM (frzM (lstM (M.ret [])))))) (retS (M.ret .non)) (M.ret .nx))
  (thenS
  (setN 7 (lstM (consM (k2 ixD (varK 6) (opdM (M.ret (dN 0)))) (M.ret []))))
  (thenS
  (forS (enumI (var 1)) (bndT [8, 9]) (dropS (lm1 appOp (refS 7) (k2 ixD (opdM (callM F_bits_of (consM (b2 andD (k2 ixD (opdM (k2 dgD (opdM (k1 (fldD (T 0) "by_letter") (varK 0))) (varK 9))) (opdM (k2 ixD (varK 7) (opdM ((M.ret (dN 1)) >>= fun d => M.opt (negD d)))))) (k2 ixD (varK 5) (opdM (b2 addD (var 8) (M.ret (dN 1)))))) (consM (k1 (fldD (T 0) "own_states") (varK 0)) (M.ret []))))) (opdM (M.ret (dN 0)))))))
  (retS (k1 tupleD (varK 7))))))))))
def F_Rule_run (T : Nat → Addr) : Fn := runB 11 4 (h_Rule_run T)
def h_Rule_first (T : Nat → Addr) : M Out := (retS (callM F_bits_of (consM (k1 (fldD (T 0) "first_bits") (varK 0)) (consM (k1 (fldD (T 0) "own_states") (varK 0)) (M.ret [])))))
def F_Rule_first (T : Nat → Addr) : Fn := runB 1 1 (h_Rule_first T)
def h_Rule_last (T : Nat → Addr) : M Out := (retS (callM F_bits_of (consM (k1 (fldD (T 0) "last_bits") (varK 0)) (consM (k1 (fldD (T 0) "own_states") (varK 0)) (M.ret [])))))
def F_Rule_last (T : Nat → Addr) : Fn := runB 1 1 (h_Rule_last T)
def h_Rule_least_marking (T : Nat → Addr) : M Out := (retS (methM (T 0) "run" (F_Rule_run T) (var 0) (consM (var 1) (consM (methM (T 0) "first" (F_Rule_first T) (var 0) (M.ret [])) (consM (methM (T 0) "last" (F_Rule_last T) (var 0) (M.ret [])) (M.ret []))))))
def F_Rule_least_marking (T : Nat → Addr) : Fn := runB 2 2 (h_Rule_least_marking T)
def h_Rule___call__ (T : Nat → Addr) : M Out := (retS (methM (T 0) "least_marking" (F_Rule_least_marking T) (var 0) (consM (var 1) (M.ret []))))
def F_Rule___call__ (T : Nat → Addr) : Fn := runB 2 2 (h_Rule___call__ T)
def h_Rule___contains__ (T : Nat → Addr) : M Out := (retS (b2 notN (methM (T 0) "least_marking" (F_Rule_least_marking T) (var 0) (consM (var 1) (M.ret []))) (M.ret .non)))
def F_Rule___contains__ (T : Nat → Addr) : Fn := runB 2 2 (h_Rule___contains__ T)
end
end Nc
namespace Nc
open PySem PySem.Spec PyProof.Rows L2
theorem h_open_run {ns : List Int} {a : Option Slot} (hl : ns.length ≤ 63) : ∃ (s : Int) (ρ' : Rho), h_law_open ⟨[a, some (.val (.lst (ns.map D.int))), none, none], []⟩ = .ok (.rt (.lst [.lst (ns.map D.int), dN 0, dN 0, .int s])) ρ' ∧ ρ'.g = [] := by
  have s1 : small64i ((7919 : Nat) : Int) = true := by decide
  have p1 : (0 : Int) < ((2147483587 : Nat) : Int) := by decide
  have key : Sat (h_law_open ⟨[a, some (.val (.lst (ns.map D.int))), none, none], []⟩) fun o ρ => ∃ s : Int, o = .rt (.lst [.lst (ns.map D.int), dN 0, dN 0, .int s]) ∧ ρ.g = [] := by
    simp only [EV1, EV2, EV3, EV4, EV5, EV6, EV7, EV8, EV9, EV10, EV11, EV12, EV13, EV14, EV15, EV16, EV17, EV18, EV19, EV20, EV21, EV22, EV23, vals, List.replicate, Nat.reduceBEq, Nat.reduceAdd, Nat.reduceLT, Nat.reduceSub, Nat.reduceMul, Nat.reduceLeDiff, Nat.reduceEqDiff, OP1, OP2, h_law_open, List.length_map, mul_nn (show ns.length < 10 ^ 18 by omega)]
    refine' Sat.stepI (loop_satJ (fun i ρ => ∃ (s : Int) (x3 : Option Slot), ρ = ⟨[a, some (.val (.lst (ns.map D.int))), some (.val (.int s)), x3], []⟩) ⟨_, none, rfl⟩ (fun i d ρ hd ⟨s, x3, hρ⟩ => ?_)) (fun o ρ ⟨h0, s, x3, hρ⟩ => ?_)
    · subst hρ
      rw [List.getElem?_map] at hd
      obtain ⟨c, hc, e⟩ := Option.map_eq_some_iff.mp hd
      subst e
      simp only [EV1, EV2, EV3, EV4, EV5, EV6, EV7, EV8, EV9, EV10, EV11, EV12, EV13, EV14, EV15, EV16, EV17, EV18, EV19, EV20, EV21, EV22, EV23, vals, List.replicate, Nat.reduceBEq, Nat.reduceAdd, Nat.reduceLT, Nat.reduceSub, Nat.reduceMul, Nat.reduceLeDiff, Nat.reduceEqDiff, mul_ir s1, add_ii, int_int, mod_ii p1]
      exact ⟨rfl, _, _, rfl⟩
    · subst h0 hρ
      simp only [EV1, EV2, EV3, EV4, EV5, EV6, EV7, EV8, EV9, EV10, EV11, EV12, EV13, EV14, EV15, EV16, EV17, EV18, EV19, EV20, EV21, EV22, EV23, vals, List.replicate, Nat.reduceBEq, Nat.reduceAdd, Nat.reduceLT, Nat.reduceSub, Nat.reduceMul, Nat.reduceLeDiff, Nat.reduceEqDiff, OP1, OP2]
      exact ⟨s, rfl, rfl⟩
  obtain ⟨o, ρ', e, s, rfl, hg⟩ := key.get
  exact ⟨s, ρ', e, hg⟩
theorem cut63 {ns : List Int} (h : ns.length ≤ 63) : cutV (ns.map V.int) none (some 63) = ns.map V.int := by
  unfold cutV
  rw [HT.sIx_none, show HT.sIx (ns.map V.int).length (ns.map V.int).length (some 63) = min 63 (ns.map V.int).length from HT.sIx_nat _ _ 63, List.drop_zero, Nat.sub_zero]
  refine List.take_of_length_le ?_
  rw [List.length_map]
  omega
section
variable {K : PySem.W.Frag}
theorem rep_box {B : Fz} {ns : List Int} {s : Int} {v : V} (h : Rep K B (.lst [.lst (ns.map D.int), dN 0, dN 0, .int s]) v) : ∃ p c, v = .ref p ∧ B p = some (.lst [.ref c, .int 0, .int 0, .int s]) ∧ B c = some (.lst (ns.map V.int)) := by
  simp only [Rep, Reps] at h
  obtain ⟨p, xs, rfl, hp, x, xs1, rfl, ⟨c, ys, rfl, hc, hr⟩, y, xs2, rfl, rfl, z, xs3, rfl, rfl, u, xs4, rfl, rfl, rfl⟩ := h
  rw [hr.ints] at hc
  exact ⟨p, c, rfl, hp, hc⟩
theorem law_sat {E : WX} {σ : L2.St} {B : Fz} {H : Hp} {ρ : Rho} {Dn : Ends} {h : M Out} (s : Sat (h ρ) fun o _ => o = .rt (.bl true)) (q : ∀ H', Dn.rt (.bl true) H') : AtS K E σ B H ρ Dn (h ρ) := by
  obtain ⟨o, ρ', e, rfl⟩ := s.get
  rw [e]
  intro v σ' B' H' st r
  have r := rep_bl r
  subst r
  exact q _
end
end Nc
namespace Nc
open PySem PySem.Spec PyProof.Rows L2 LamX
def spOpenT (K : PySem.W.Frag) : Sp := fun vs H Q _ => ∃ (a : Addr) (ns : List Int), vs = [.ref a] ∧ SqL K H a (ns.map V.int) ∧ ns.length ≤ 63 ∧ ∀ H' p c s, H' p = some (.lst [.ref c, .int 0, .int 0, .int s]) → H' c = some (.lst (ns.map V.int)) → (∀ b o, H b = some o → H' b = some o) → Q (.ref p) H'
def spLawT (K : PySem.W.Frag) (P : Addr) : Sp := fun vs H Q _ => ∃ (a : Addr) (ns : List Int), vs = [.ref a] ∧ SqL K H a (ns.map V.int) ∧ ns.length ≤ 63 ∧ H P = some (.tbl #[]) ∧ ∀ H', Q (.bl true) H'
section
variable {K : PySem.W.Frag}
theorem open_endT {H : Hp} {a L : Addr} {ns : List Int} {Q : VK} {E : WX} (hl : ns.length ≤ 63) (h : H L = some (.lst (ns.map V.int))) (q : ∀ H' p c s, H' p = some (.lst [.ref c, .int 0, .int 0, .int s]) → H' c = some (.lst (ns.map V.int)) → (∀ b o, H b = some o → H' b = some o) → Q (.ref p) H') (nx : L2.St → Hp → Prop) :
    tS K E h_law_open { nx := nx, rt := Q } [some (.ref a), some (.ref L), none, none] H := by
  obtain ⟨sv, ρ', e, _⟩ := h_open_run (a := some (.val (.adr a))) hl
  have noOwn : ∀ i p, ¬ OwnAt [some (V.ref a), some (.ref L), none, none] ⟨upd (fun _ => none) L (.lst (ns.map V.int)), fun _ => none⟩ ⟨[some (.val (.adr a)), some (.val (.lst (ns.map D.int))), none, none], []⟩ i p := fun i p h1 => by
    cases i with
    | c n =>
      obtain ⟨⟨o, h1⟩, _⟩ := h1
      simp at h1
    | s i =>
      obtain ⟨⟨o, e2⟩, _⟩ := h1
      match i, e2 with
      | 0, e2 => cases e2
      | 1, e2 => cases e2
      | 2, e2 => cases e2
      | 3, e2 => cases e2
      | i + 4, e2 => simp [Rho.get_mk] at e2
  refine ⟨⟨upd (fun _ => none) L (.lst (ns.map V.int)), fun _ => none⟩, ⟨[some (.val (.adr a)), some (.val (.lst (ns.map D.int))), none, none], []⟩, ⟨fun b u hb => ?_, rfl, fun i sl hi => ?_, fun i j p h1 h2 => (noOwn i p h1).elim, ⟨fun n o h => by simp at h, fun _ _ => rfl, fun n a h => by cases h⟩⟩, ?_⟩
  · by_cases e2 : b = L
    · subst e2
      have hb : upd (fun _ => none) b (.lst (ns.map V.int)) b = some u := hb
      rw [upd_same] at hb
      rw [h]
      exact hb
    · have hb : upd (fun _ => none) L (.lst (ns.map V.int)) b = some u := hb
      rw [upd_ne e2] at hb
      cases hb
  · match i, hi with
    | 0, hi =>
      cases hi
      exact ⟨.ref a, rfl, by simp only [Rep]⟩
    | 1, hi =>
      cases hi
      refine ⟨.ref L, rfl, ?_⟩
      simp only [Rep]
      exact ⟨L, ns.map V.int, rfl, upd_same, Reps.of_ints ns⟩
    | 2, hi =>
      cases hi
      trivial
    | 3, hi =>
      cases hi
      trivial
    | i + 4, hi => simp [Rho.get_mk] at hi
  · rw [e]
    intro v σ' B' H' st r
    obtain ⟨p, c', rfl, hp, hc⟩ := rep_box r
    exact q H' p c' sv (st.cf.bh _ _ hp) (st.cf.bh _ _ hc) fun b o hb => st.keep b o hb fun ⟨i, z⟩ => noOwn i b z
abbrev lamQ : Str := ("law" : Str) ++ (".<locals>." : Str) ++ ("<lambda>" : Str)
abbrev piT (p P : Addr) : Nat → Option Addr := fun n => if n = 0 then some p else if n = 1 then some P else none
theorem cf_boxT {H : Hp} {a p c P : Addr} {q : Str} {ns : List Int} {s : Int} (hp : H p = some (.lst [.ref c, .int 0, .int 0, .int s])) (hc : H c = some (.lst (ns.map V.int))) (hP : H P = some (.tbl #[])) (m : Nat) :
    Cf K ⟨upd (fun _ => none) c (.lst (ns.map V.int)), piT p P⟩ H (some (.ref a) :: some (.ref p) :: List.replicate m none) ⟨some (.val (.adr a)) :: some (.val (.ptr 0)) :: List.replicate m none, [Box.o ⟨ns, 0, 0, s⟩, .tbl 1 P q]⟩ := by
  have npc : p ≠ c := fun e => by
    rw [e, hc] at hp
    cases ns with
    | nil => simp at hp
    | cons n ns => simp at hp
  have nPc : P ≠ c := fun e => by
    rw [e, hc] at hP
    cases hP
  have nPp : P ≠ p := fun e => by
    rw [e, hp] at hP
    cases hP
  have own : ∀ i q', OwnAt (some (.ref a) :: some (.ref p) :: List.replicate m none) ⟨upd (fun _ => none) c (.lst (ns.map V.int)), piT p P⟩ ⟨some (.val (.adr a)) :: some (.val (.ptr 0)) :: List.replicate m none, [Box.o ⟨ns, 0, 0, s⟩, .tbl 1 P q]⟩ i q' → (i = .c 0 ∧ q' = p) ∨ (i = .c 1 ∧ q' = P) := fun i q' h => by
    cases i with
    | s i =>
      obtain ⟨⟨o, e⟩, _⟩ := h
      rw [Rho.get_mk] at e
      match i, e with
      | 0, e => simp at e
      | 1, e => simp at e
      | i + 2, e =>
        rw [List.getElem?_cons_succ, List.getElem?_cons_succ, List.getElem?_replicate] at e
        split at e <;> cases e
    | c n =>
      obtain ⟨_, e⟩ := h
      have e : (if n = 0 then some p else if n = 1 then some P else none) = some q' := e
      split at e
      · rename_i z
        cases e
        exact .inl ⟨by rw [z], rfl⟩
      · split at e
        · rename_i z
          cases e
          exact .inr ⟨by rw [z], rfl⟩
        · cases e
  refine ⟨fun b u hb => ?_, by simp [Rho.length], fun i sl hi => ?_, fun i j q' h1 h2 => ?_, ⟨fun n o h => ?_, fun n l => ?_, fun n b h => ?_⟩⟩
  · by_cases e2 : b = c
    · subst e2
      have hb : upd (fun _ => none) b (.lst (ns.map V.int)) b = some u := hb
      rw [upd_same] at hb
      rw [hc]
      exact hb
    · have hb : upd (fun _ => none) c (.lst (ns.map V.int)) b = some u := hb
      rw [upd_ne e2] at hb
      cases hb
  · rw [Rho.get_mk] at hi
    match i, hi with
    | 0, hi =>
      cases hi
      exact ⟨.ref a, rfl, by simp only [Rep]⟩
    | 1, hi =>
      cases hi
      refine ⟨.ref p, rfl, ?_⟩
      simp only [Rep]
      exact ⟨p, rfl, rfl⟩
    | i + 2, hi =>
      rw [List.getElem?_cons_succ, List.getElem?_cons_succ, List.getElem?_replicate] at hi
      split at hi
      · cases hi
        trivial
      · cases hi
  · rcases own i q' h1 with ⟨rfl, e1⟩ | ⟨rfl, e1⟩ <;> rcases own j q' h2 with ⟨rfl, e2⟩ | ⟨rfl, e2⟩
    · rfl
    · exact absurd (e2.symm.trans e1) nPp
    · exact absurd (e1.symm.trans e2) nPp
    · rfl
  · match n, h with
    | 0, h =>
      cases h
      refine ⟨p, _, rfl, (by show upd (fun _ => none) c (.lst (ns.map V.int)) p = none; rw [upd_ne npc]), hp, ⟨_, rfl, ?_⟩⟩
      refine Reps.cons ?_ (Reps.cons (by simp only [Rep]; rfl) (Reps.cons (by simp only [Rep]) (Reps.cons (by simp only [Rep]) Reps.nil)))
      simp only [Rep]
      exact ⟨c, ns.map V.int, rfl, upd_same, Reps.of_ints ns⟩
    | 1, h =>
      cases h
      refine ⟨P, _, rfl, (by show upd (fun _ => none) c (.lst (ns.map V.int)) P = none; rw [upd_ne nPc]), hP, ⟨rfl, #[], rfl, True.intro, fun pos cv hcv => ?_⟩⟩
      have z : (none : Option Value) = some cv := hcv
      cases z
    | n + 2, h => simp at h
  · have l : 2 ≤ n := l
    show (if n = 0 then some p else if n = 1 then some P else none) = none
    rw [if_neg (by omega), if_neg (by omega)]
  · have h : (if n = 0 then some p else if n = 1 then some P else none) = some b := h
    split at h
    · cases h
      rw [hp]
      exact fun z => by cases z
    · split at h
      · cases h
        rw [hP]
        exact fun z => by cases z
      · cases h
/-- what is shown of such a law's body -/
def LawOkT (h : M Out) (m : Nat) (P : Addr) (q : Str) : Prop := ∀ (g : D) (b : Box), Sat (h ⟨some (.val g) :: some (.val (.ptr 0)) :: List.replicate m none, [b.o, .tbl 1 P q]⟩) fun o _ => o = .rt (.bl true)
theorem law_endT {E : WX} {h : M Out} {m : Nat} {a p c P : Addr} {q : Str} {ns : List Int} {s : Int} {H : Hp} {Dn : Ends} (run : LawOkT h m P q) (hp : H p = some (.lst [.ref c, .int 0, .int 0, .int s])) (hc : H c = some (.lst (ns.map V.int))) (hP : H P = some (.tbl #[])) (k : ∀ H', Dn.rt (.bl true) H') :
    tS K E h Dn (some (.ref a) :: some (.ref p) :: List.replicate m none) H := ⟨_, _, cf_boxT (a := a) (q := q) hp hc hP m, law_sat (run (.adr a) ⟨ns, 0, 0, s⟩) k⟩
end
end Nc
namespace Nc
open PySem PySem.Spec PyProof.Rows L2
theorem flats_strs (zs : List Str) : D.flats (zs.map D.str) = some (zs.map V.str) := by
  induction zs with
  | nil => rfl
  | cons z zs ih => simp only [List.map, D.flats, D.flat, ih]
theorem inT_str (z : Str) (zs : List Str) : inD (.str z) (.tup (zs.map D.str)) = some (.bl (decide (z ∈ zs))) := by
  have e : inV (.str z) (zs.map V.str) = decide (z ∈ zs) := by
    unfold inV
    induction zs with
    | nil => rfl
    | cons y ys ih =>
      rw [List.map_cons, List.any_cons, ih]
      have e1 : eqV (V.str y) (V.str z) = decide (y = z) := rfl
      rw [e1]
      by_cases h : y = z
      · simp [h]
      · have : ¬ z = y := fun e => h e.symm
        simp [h, this]
  have h : inS (.str z) (.tup (zs.map D.str)) = some (decide (z ∈ zs)) := by
    simp only [inS, D.flat, flats_strs, e]
  unfold inD
  rw [h]
  rfl
theorem eq_strs (z y : Str) : eqD (.str z) (.str y) = some (.bl (decide (z = y))) := by
  simp only [eqD, eqB, eqS, Option.map_some]
abbrev g1 : List Str := ["InvalidStep", "InvalidText", "InvalidIndex", "InvalidEdit", "InvalidSpec", "InvalidCommand"]
theorem in_g1 (z : Str) : inD (.str z) (.tup [.str "InvalidStep", .str "InvalidText", .str "InvalidIndex", .str "InvalidEdit", .str "InvalidSpec", .str "InvalidCommand"]) = some (.bl (decide (z ∈ g1))) := inT_str z g1
abbrev g2 : List Str := ["InvalidLetters", "InvalidCount", "InvalidState", "InvalidLetter", "InvalidReach", "InvalidLimit"]
theorem in_g2 (z : Str) : inD (.str z) (.tup [.str "InvalidLetters", .str "InvalidCount", .str "InvalidState", .str "InvalidLetter", .str "InvalidReach", .str "InvalidLimit"]) = some (.bl (decide (z ∈ g2))) := inT_str z g2
abbrev g3 : List Str := ["InvalidName", "DuplicateName", "WrongKind", "UnknownName"]
theorem in_g3 (z : Str) : inD (.str z) (.tup [.str "InvalidName", .str "DuplicateName", .str "WrongKind", .str "UnknownName"]) = some (.bl (decide (z ∈ g3))) := inT_str z g3
abbrev g4 : List Str := ["CapacityExceeded", "TooLarge"]
theorem in_g4 (z : Str) : inD (.str z) (.tup [.str "CapacityExceeded", .str "TooLarge"]) = some (.bl (decide (z ∈ g4))) := inT_str z g4
end Nc
namespace Nc
open PySem PySem.Spec PyProof.Rows L2
noncomputable section
def h_law_field (a dx : Addr) : M Out := (thenS
  (ifM (tst (k2 inD (opdM (k1 (fldXP a dx "code") (varK 0))) (opdM (tupM (consM (M.ret (.str "InvalidStep")) (consM (M.ret (.str "InvalidText")) (consM (M.ret (.str "InvalidIndex")) (consM (M.ret (.str "InvalidEdit")) (consM (M.ret (.str "InvalidSpec")) (consM (M.ret (.str "InvalidCommand")) (M.ret []))))))))))) (retS (tupM (consM (k1 (fldXP a dx "at") (varK 0)) (M.ret [])))) (M.ret .nx))
  (thenS
  (ifM (tst (k2 inD (opdM (k1 (fldXP a dx "code") (varK 0))) (opdM (tupM (consM (M.ret (.str "InvalidLetters")) (consM (M.ret (.str "InvalidCount")) (consM (M.ret (.str "InvalidState")) (consM (M.ret (.str "InvalidLetter")) (consM (M.ret (.str "InvalidReach")) (consM (M.ret (.str "InvalidLimit")) (M.ret []))))))))))) (retS (tupM (consM (k1 (fldXP a dx "given") (varK 0)) (M.ret [])))) (M.ret .nx))
  (thenS
  (ifM (tst (k2 inD (opdM (k1 (fldXP a dx "code") (varK 0))) (opdM (tupM (consM (M.ret (.str "InvalidName")) (consM (M.ret (.str "DuplicateName")) (consM (M.ret (.str "WrongKind")) (consM (M.ret (.str "UnknownName")) (M.ret []))))))))) (retS (tupM (consM (k1 (fldXP a dx "name") (varK 0)) (M.ret [])))) (M.ret .nx))
  (thenS
  (ifM (tst (k2 inD (opdM (k1 (fldXP a dx "code") (varK 0))) (opdM (tupM (consM (M.ret (.str "CapacityExceeded")) (consM (M.ret (.str "TooLarge")) (M.ret []))))))) (retS (tupM (consM (k1 (fldXP a dx "bound") (varK 0)) (M.ret [])))) (M.ret .nx))
  (retS (ifM (tst (k2 eqD (opdM (k1 (fldXP a dx "code") (varK 0))) (opdM (M.ret (.str "NotFull"))))) (tupM (consM (k1 (fldXP a dx "lacking") (varK 0)) (M.ret []))) (tupM (M.ret []))))))))
def F_law_field (a dx : Addr) : Fn := runB 1 1 (h_law_field a dx)
end
theorem fldXP_at {a dx : Addr} {f : Str} {fs : List Str} {ds : List D} : fldXP a dx f (.xp a dx fs ds) = fldL f fs ds := if_pos ⟨rfl, rfl⟩
theorem lookG_xp {g : Cells} {a dx : Addr} {fs : List Str} {ds : List D} : lookG g (.xp a dx fs ds) = some (.xp a dx fs ds) := Eq.trans (Eq.refl _) (Eq.refl _)
theorem field_run1 {a dx : Addr} {code f : Str} {d : D} {g : Cells} (h : (code ∈ g1 ∧ f = "at") ∨ (code ∉ g1 ∧ code ∈ g2 ∧ f = "given") ∨ (code ∉ g1 ∧ code ∉ g2 ∧ code ∈ g3 ∧ f = "name") ∨ (code ∉ g1 ∧ code ∉ g2 ∧ code ∉ g3 ∧ code ∈ g4 ∧ f = "bound") ∨ (code ∉ g1 ∧ code ∉ g2 ∧ code ∉ g3 ∧ code ∉ g4 ∧ code = "NotFull" ∧ f = "lacking")) : F_law_field a dx [.xp a dx ["code", f] [.str code, d]] g = .ok (.tup [d]) g := by
  have c1 : fldL "code" ["code", f] [.str code, d] = some (.str code) := fldL_hit
  apply run_sat rfl rfl
  rcases h with ⟨h1, rfl⟩ | ⟨h1, h2, rfl⟩ | ⟨h1, h2, h3, rfl⟩ | ⟨h1, h2, h3, h4, rfl⟩ | ⟨h1, h2, h3, h4, h5, rfl⟩
  · have c2 : fldL "at" ["code", "at"] [.str code, d] = some d := by rw [fldL_miss (by decide), fldL_hit]
    simp only [EV1, EV2, EV3, EV4, EV5, EV6, EV7, EV8, EV9, EV10, EV11, EV12, EV13, EV14, EV15, EV16, EV17, EV18, EV19, EV20, EV21, EV22, EV23, vals, List.replicate, Nat.reduceBEq, Nat.reduceAdd, Nat.reduceLT, Nat.reduceSub, Nat.reduceMul, Nat.reduceLeDiff, Nat.reduceEqDiff, OP1, OP2, h_law_field, lookG_xp, fldXP_at, c1, in_g1, decide_eq_true h1, c2]
    exact ⟨rfl, rfl⟩
  · have c2 : fldL "given" ["code", "given"] [.str code, d] = some d := by rw [fldL_miss (by decide), fldL_hit]
    simp only [EV1, EV2, EV3, EV4, EV5, EV6, EV7, EV8, EV9, EV10, EV11, EV12, EV13, EV14, EV15, EV16, EV17, EV18, EV19, EV20, EV21, EV22, EV23, vals, List.replicate, Nat.reduceBEq, Nat.reduceAdd, Nat.reduceLT, Nat.reduceSub, Nat.reduceMul, Nat.reduceLeDiff, Nat.reduceEqDiff, OP1, OP2, h_law_field, lookG_xp, fldXP_at, c1, in_g1, in_g2, decide_eq_false h1, decide_eq_true h2, c2]
    exact ⟨rfl, rfl⟩
  · have c2 : fldL "name" ["code", "name"] [.str code, d] = some d := by rw [fldL_miss (by decide), fldL_hit]
    simp only [EV1, EV2, EV3, EV4, EV5, EV6, EV7, EV8, EV9, EV10, EV11, EV12, EV13, EV14, EV15, EV16, EV17, EV18, EV19, EV20, EV21, EV22, EV23, vals, List.replicate, Nat.reduceBEq, Nat.reduceAdd, Nat.reduceLT, Nat.reduceSub, Nat.reduceMul, Nat.reduceLeDiff, Nat.reduceEqDiff, OP1, OP2, h_law_field, lookG_xp, fldXP_at, c1, in_g1, in_g2, in_g3, decide_eq_false h1, decide_eq_false h2, decide_eq_true h3, c2]
    exact ⟨rfl, rfl⟩
  · have c2 : fldL "bound" ["code", "bound"] [.str code, d] = some d := by rw [fldL_miss (by decide), fldL_hit]
    simp only [EV1, EV2, EV3, EV4, EV5, EV6, EV7, EV8, EV9, EV10, EV11, EV12, EV13, EV14, EV15, EV16, EV17, EV18, EV19, EV20, EV21, EV22, EV23, vals, List.replicate, Nat.reduceBEq, Nat.reduceAdd, Nat.reduceLT, Nat.reduceSub, Nat.reduceMul, Nat.reduceLeDiff, Nat.reduceEqDiff, OP1, OP2, h_law_field, lookG_xp, fldXP_at, c1, in_g1, in_g2, in_g3, in_g4, decide_eq_false h1, decide_eq_false h2, decide_eq_false h3, decide_eq_true h4, c2]
    exact ⟨rfl, rfl⟩
  · have c2 : fldL "lacking" ["code", "lacking"] [.str code, d] = some d := by rw [fldL_miss (by decide), fldL_hit]
    simp only [EV1, EV2, EV3, EV4, EV5, EV6, EV7, EV8, EV9, EV10, EV11, EV12, EV13, EV14, EV15, EV16, EV17, EV18, EV19, EV20, EV21, EV22, EV23, vals, List.replicate, Nat.reduceBEq, Nat.reduceAdd, Nat.reduceLT, Nat.reduceSub, Nat.reduceMul, Nat.reduceLeDiff, Nat.reduceEqDiff, OP1, OP2, h_law_field, lookG_xp, fldXP_at, c1, in_g1, in_g2, in_g3, in_g4, decide_eq_false h1, decide_eq_false h2, decide_eq_false h3, decide_eq_false h4, eq_strs, decide_eq_true h5, c2]
    exact ⟨rfl, rfl⟩
theorem callPM_r {F : Addr → Addr → Fn} {a dx : Addr} {f : M D} {ρ ρ1 : Rho} {fs : List Str} {ds : List D} {d : D} {g : Cells} (h : f ρ = .ok (.xp a dx fs ds) ρ1) (e : F a dx [.xp a dx fs ds] ρ1.g = .ok d g) : callPM F a dx f ρ = .ok d ⟨ρ1.l, g⟩ := by
  have hb : callPM F a dx f ρ = (f ρ).bnd (fun d ρ => if isXp a dx d = true then okP ρ.l (F a dx [d] ρ.g) else .no) := bind_r
  have ht : isXp a dx (.xp a dx fs ds) = true := decide_eq_true ⟨rfl, rfl⟩
  rw [hb, h, Rs.bnd_ok]
  rw [if_pos ht, e]
  rfl
theorem add_tt {ds es : List D} (h : ds.length + es.length < 100000) : addD (.tup ds) (.tup es) = some (.tup (ds ++ es)) := if_pos (le_size h)
theorem tells_of {F : Addr → Addr → Fn} {e : Xn} {code : Str} {rest : List D} (hf : ∃ ft : List Str, e.fs = ("code" : Str) :: ft) (hd : e.ds = .str code :: rest) (hl : rest.length < 1000) (hF : ∀ (a dx : Addr) (g : Cells), F a dx [.xp a dx e.fs e.ds] g = .ok (.tup rest) g) : Tells F e := by
  intro f a dx g
  obtain ⟨ft, hf⟩ := hf
  have hF := hF a dx g
  rw [hf, hd] at hF
  rw [hf, hd]
  have c1 : fldL "code" ("code" :: ft) (.str code :: rest) = some (.str code) := fldL_hit
  have hc : callPM F a dx (var 1) ⟨[some (.val (.adr f)), some (.val (.xp a dx ("code" :: ft) (.str code :: rest)))], g⟩ = .ok (.tup rest) ⟨[some (.val (.adr f)), some (.val (.xp a dx ("code" :: ft) (.str code :: rest)))], g⟩ := callPM_r (ρ1 := ⟨[some (.val (.adr f)), some (.val (.xp a dx ("code" :: ft) (.str code :: rest)))], g⟩) rfl hF
  simp only [EV1, EV2, EV3, EV4, EV5, EV6, EV7, EV8, EV9, EV10, EV11, EV12, EV13, EV14, EV15, EV16, EV17, EV18, EV19, EV20, EV21, EV22, EV23, vals, List.replicate, Nat.reduceBEq, Nat.reduceAdd, Nat.reduceLT, Nat.reduceSub, Nat.reduceMul, Nat.reduceLeDiff, Nat.reduceEqDiff, OP1, OP2, h_suite, lookG_xp, fldXP_at, c1, hc, add_tt (show [D.str "no", .str code].length + rest.length < 100000 by simp; omega)]
theorem tells1 {e : Xn} {code f : Str} {d : D} (h1 : e.fs = [("code" : Str), f]) (h2 : e.ds = [.str code, d]) (h : (code ∈ g1 ∧ f = "at") ∨ (code ∉ g1 ∧ code ∈ g2 ∧ f = "given") ∨ (code ∉ g1 ∧ code ∉ g2 ∧ code ∈ g3 ∧ f = "name") ∨ (code ∉ g1 ∧ code ∉ g2 ∧ code ∉ g3 ∧ code ∈ g4 ∧ f = "bound") ∨ (code ∉ g1 ∧ code ∉ g2 ∧ code ∉ g3 ∧ code ∉ g4 ∧ code = "NotFull" ∧ f = "lacking")) : Tells F_law_field e :=
  tells_of ⟨_, h1⟩ h2 (by show 1 < 1000; decide) fun a dx g => by rw [h1, h2]; exact field_run1 h
end Nc
namespace Nc
open PySem PySem.Spec PyProof.Rows L2
noncomputable section
def h_Rule_states (T : Nat → Addr) : M Out := (retS (k1 (fldD (T 0) "own_states") (varK 0)))
def F_Rule_states (T : Nat → Addr) : Fn := runB 1 1 (h_Rule_states T)
end
end Nc
namespace Nc
open PySem PySem.Spec PyProof.Rows L2
end Nc
namespace Nc
open PySem PySem.Spec PyProof.Rows L2
noncomputable section
def h_law_letter_rel : M Out := (thenS
  (setN 2 (b2N repO (frzM (lstM (consM (M.ret (dN 0)) (M.ret [])))) (k2 ixD (varK 0) (opdM (M.ret (dN 1))))))
  (thenS
  (forS (seqI (k2 ixD (varK 0) (opdM (M.ret (dN 2))))) (bndT [3, 4, 5]) (ifM (tst (k2 eqD (varK 4) (varK 1))) (itemS (refS 2) (b2 orD (k2 ixD (varK 2) (varK 3)) (b2 shlD (M.ret (dN 1)) (var 5))) (var 3)) (M.ret .nx)))
  (retS (k1 tupleD (varK 2)))))
def F_law_letter_rel : Fn := runB 6 2 h_law_letter_rel
def h_is_related : M Out := (retS (k2 eqD (opdM (b2 andD (b2 shrD (k2 ixD (varK 0) (varK 1)) (var 2)) (M.ret (dN 1)))) (opdM (M.ret (dN 1)))))
def F_is_related : Fn := runB 3 3 h_is_related
def h_Rule_how_many (T : Nat → Addr) : M Out := (thenS
  (dropS (methM (T 0) "check_text" (F_Rule_check_text T) (var 0) (consM (var 1) (M.ret []))))
  (thenS
  (setS 2 (frzM (lcM (rngI (k1 (fldD (T 0) "own_states") (varK 0))) (bndN 5) (M.ret true) (b2 andD (b2 shrD (k1 (fldD (T 0) "first_bits") (varK 0)) (var 5)) (M.ret (dN 1))) [5])))
  (thenS
  (forS (seqI (var 1)) (bndN 3) (thenS
  (setS 4 (k2 dgD (opdM (k1 (fldD (T 0) "by_letter") (varK 0))) (varK 3)))
  (setS 2 (frzM (lcM (rngI (k1 (fldD (T 0) "own_states") (varK 0))) (bndN 6) (M.ret true) (k1 sumD (opdM (frzM (lcM (rngI (k1 (fldD (T 0) "own_states") (varK 0))) (bndN 7) (tst (callM F_is_related (consM (var 4) (consM (var 7) (consM (var 6) (M.ret [])))))) (k2 ixD (varK 2) (varK 7)) [7])))) [6])))))
  (retS (k1 sumD (opdM (frzM (lcM (seqI (methM (T 0) "last" (F_Rule_last T) (var 0) (M.ret []))) (bndN 5) (M.ret true) (k2 ixD (varK 2) (varK 5)) [5]))))))))
def F_Rule_how_many (T : Nat → Addr) : Fn := runB 8 2 (h_Rule_how_many T)
end
end Nc
namespace Nc
open PySem PySem.Spec PyProof.Rows L2
noncomputable section
def h_Rule_relation (T : Nat → Addr) : M Out := (thenS
  (dropS (methM (T 0) "check_text" (F_Rule_check_text T) (var 0) (consM (var 1) (M.ret []))))
  (thenS
  (setS 2 (callM F_identity (consM (k1 (fldD (T 0) "own_states") (varK 0)) (M.ret []))))
  (thenS
  (forS (seqI (var 1)) (bndN 3) (setS 2 (callM F_joined (consM (var 2) (consM (k2 dgD (opdM (k1 (fldD (T 0) "by_letter") (varK 0))) (varK 3)) (M.ret []))))))
  (retS (var 2)))))
def F_Rule_relation (T : Nat → Addr) : Fn := runB 4 2 (h_Rule_relation T)
def h_is_run (T : Nat → Addr) : M Out := (thenS
  (ifM (orM (tst (k2 neD (opdM (k1 lenD (varK 2))) (opdM (b2 addD (k1 lenD (varK 1)) (M.ret (dN 1)))))) (notM (tst (k1 allD (opdM (frzM (lcM (seqI (var 2)) (bndN 3) (M.ret true) (callM F_is_number (consM (var 3) (consM (M.ret (dN 0)) (consM (b2 subD (propG (T 0) (F_Rule_states T) (var 0)) (M.ret (dN 1))) (M.ret []))))) [3]))))))) (retS (M.ret (.bl false))) (M.ret .nx))
  (retS (k1 allD (opdM (frzM (lcM (rngI (k1 lenD (varK 1))) (bndN 4) (M.ret true) (callM F_is_related (consM (k2 dgD (opdM (k1 (fldD (T 0) "by_letter") (varK 0))) (opdM (k2 ixD (varK 1) (varK 4)))) (consM (k2 ixD (varK 2) (varK 4)) (consM (k2 ixD (varK 2) (opdM (b2 addD (var 4) (M.ret (dN 1))))) (M.ret []))))) [4]))))))
def F_is_run (T : Nat → Addr) : Fn := runB 5 3 (h_is_run T)
def h_Rule_is_marking (T : Nat → Addr) : M Out := (thenS
  (dropS (methM (T 0) "check_text" (F_Rule_check_text T) (var 0) (consM (var 1) (M.ret []))))
  (thenS
  (ifM (notM (tst (callM (F_is_run T) (consM (var 0) (consM (var 1) (consM (var 2) (M.ret []))))))) (retS (M.ret (.bl false))) (M.ret .nx))
  (retS (andV (k2 eqD (opdM (b2 andD (b2 shrD (k1 (fldD (T 0) "first_bits") (varK 0)) (k2 ixD (varK 2) (opdM (M.ret (dN 0))))) (M.ret (dN 1)))) (opdM (M.ret (dN 1)))) (k2 eqD (opdM (b2 andD (b2 shrD (k1 (fldD (T 0) "last_bits") (varK 0)) (k2 ixD (varK 2) (opdM ((M.ret (dN 1)) >>= fun d => M.opt (negD d))))) (M.ret (dN 1)))) (opdM (M.ret (dN 1))))))))
def F_Rule_is_marking (T : Nat → Addr) : Fn := runB 3 3 (h_Rule_is_marking T)
end
end Nc
namespace Nc
open PySem PySem.Spec PyProof.Rows L2
end Nc
namespace Nc
open PySem PySem.Spec PyProof.Rows L2
end Nc
namespace Nc
open PySem PySem.Spec PyProof.Rows L2
end Nc
namespace Nc
open PySem PySem.Spec PyProof.Rows L2
end Nc
namespace Nc
open PySem PySem.Spec PyProof.Rows L2
end Nc
namespace Nc
open PySem PySem.Spec PyProof.Rows L2
end Nc
namespace Nc
open PySem PySem.Spec PyProof.Rows L2
end Nc
namespace Nc
open PySem PySem.Spec PyProof.Rows L2
end Nc
namespace Nc
open PySem PySem.Spec PyProof.Rows L2
end Nc
namespace Nc
open PySem PySem.Spec PyProof.Rows L2
end Nc
namespace Nc
open PySem PySem.Spec PyProof.Rows L2
end Nc
namespace Nc
open PySem PySem.Spec PyProof.Rows L2
noncomputable section
def h_law_rel : M Out := (thenS
  (setS 2 (callM F_law_same_rel (consM (k2 ixD (varK 0) (opdM (M.ret (dN 1)))) (M.ret []))))
  (thenS
  (forS (seqI (var 1)) (bndN 3) (setS 2 (callM F_law_chain (consM (var 2) (consM (callM F_law_letter_rel (consM (var 0) (consM (var 3) (M.ret [])))) (M.ret []))))))
  (retS (var 2))))
def F_law_rel : Fn := runB 4 2 h_law_rel
end
end Nc
set_option maxHeartbeats 2000000
namespace Nc
open PySem PySem.Spec PyProof.Rows L2 LamX
/-- captured names and globals, besides one parameter that no name of the maker is -/
structure LamSD (sc scope : Scope) (N : List Str) (x : Str) : Prop where
  kind : scope.kind = .function
  co : scope.isCoroutine = false
  gen : scope.isGenerator = false
  own : ∀ y ∈ scope.names, (y.2 = .local → y.1 = x) ∧ y.2 ≠ .cell
  free : ∀ y ∈ scope.names, y.2 = .free → sc.names.lookup y.1 = some .cell ∨ sc.names.lookup y.1 = some .free
  here : scope.names.lookup x = some .local
  out : x ∉ N
def lamSDB (sc scope : Scope) (N : List Str) (x : Str) : Bool :=
  decide (scope.kind = .function) && !scope.isCoroutine && !scope.isGenerator && (scope.names.all fun y => (!decide (y.2 = .local) || decide (y.1 = x)) && !decide (y.2 = .cell) && (!decide (y.2 = .free) || decide (sc.names.lookup y.1 = some .cell) || decide (sc.names.lookup y.1 = some .free))) &&
    decide (scope.names.lookup x = some .local) && decide (x ∉ N)
theorem lamSD_by {sc scope : Scope} {N : List Str} {x : Str} (h : lamSDB sc scope N x = true) : LamSD sc scope N x := by
  unfold lamSDB at h
  simp only [Bool.and_eq_true, Bool.or_eq_true, Bool.not_eq_true', decide_eq_true_eq, decide_eq_false_iff_not, List.all_eq_true] at h
  obtain ⟨⟨⟨⟨⟨h1, h2⟩, h3⟩, h4⟩, h5⟩, h6⟩ := h
  refine ⟨h1, h2, h3, fun y hy => ⟨fun e => ?_, (h4 y hy).1.2⟩, fun y hy e => ?_, h5, h6⟩
  · rcases (h4 y hy).1.1 with z | z
    · exact absurd e z
    · exact z
  · rcases (h4 y hy).2 with (z | z) | z
    · exact absurd e z
    · exact .inl z
    · exact .inr z
theorem LamSD.has {X : Cx} {scope : Scope} {x : Str} (L : LamSD X.env.scope scope X.N x) (ok : X.Ok) : ∀ y ∈ scope.names, y.2 = .free → ∃ c, X.env.cells.lookup y.1 = some c := fun y hy e => by
  rcases L.free y hy e with k | k
  · exact ok.has _ (.inl k)
  · exact ok.has _ (.inr k)
section
variable {X : Cx} {pins : List (Addr × Obj)} {σ : L2.St} {H HZ : Hp} {s s1 : Shared} {x : Str}
theorem lam_startD {A : Around} {outer : List Env} {E : XK} {scope : Scope} {f c' : Addr} {h₁ : Heap} {tk : Nat} {m : Str → Option Value} (I : Inv X pins σ H s) (L : LamSD X.env.scope scope X.N x) (e0 : Env0 X.prog X.w X.K X.mg X.base A outer s1 HZ) (hd : A.handled = none)
    (un : Un (frs X.stack) [] H HZ s.heap s1.heap) (hns : h₁.Ns s1.heap.objs.size m) (kp : ∀ b o, s1.heap.get? b = some o → h₁.get? b = some o) :
    Inv (lamCx X A outer s1 HZ E scope f c') [] σ HZ { s1 with heap := h₁, toks := tk } := by
  have hfree := L.has I.ok
  have cm : ∀ {y c}, (cloFrom X.env.cells scope.names []).lookup y = some c → X.env.cells.lookup y = some c := fun {y c} e => by
    rcases cloFrom_mem (PySem.mem_of_lookup e) with hm | ⟨h1, h2⟩
    · cases hm
    · obtain ⟨c1, hc⟩ := hfree _ h1 rfl
      have hc : X.env.cells.lookup y = some c1 := hc
      have e2 : c = c1 := by
        rw [h2, hc] <;> rfl
      rw [e2]
      exact hc
  have look : ∀ {y}, scope.names.lookup y = some .free → ∃ c, (cloFrom X.env.cells scope.names []).lookup y = some c := fun {y} hl => by
    have hy : (y, NameKind.free) ∈ scope.names := PySem.mem_of_lookup hl
    exact mem_lookup (cloFrom_has (cells := X.env.cells) (acc := []) hy)
  have cellK : ∀ {c : Addr} {v : Option Value}, H c = none → s.heap.IsCell c v → h₁.IsCell c v := fun {c v} n ⟨o, ho, hd⟩ => by
    obtain ⟨sl, q⟩ := un.any ho n (by simp)
    exact ⟨_, kp _ _ q, hd⟩
  have noA : ∀ b : Addr, b ∉ (lamCx X A outer s1 HZ E scope f c').ex := fun b z => absurd (show b ∈ ([] : List Addr) from z) (by simp)
  refine ⟨⟨e0.mod, L.kind, rfl, rfl, Nat.le_refl _, fun y z c e1 e2 => I.ok.inj y z c (cm e1) (cm e2), fun y hy => ?_, fun y c z _ => ?_, fun _ => hd, Around.frames_deeper e0.frames, .inr ⟨rfl, rfl⟩, fun b z => absurd z (noA b), e0.bs, e0.bsz, fun b _ _ => noA b,
      fun b z => absurd z (noA b), e0.funs, e0.frf⟩,
    rfl, e0.bare, Un.kept kp, ⟨_, hns, fun i y v e1 e2 e3 => ?_⟩, fun y c e => ?_, e0.hok.fresh (Nat.le_refl _), fun y c e => ?_, fun q hq => absurd (show q ∈ ([] : List (Addr × Obj)) ++ [] from hq) (by simp), e0.hok.kept kp, I.len⟩
  · have hy : scope.names.lookup y = some .cell ∨ scope.names.lookup y = some .free := hy
    rcases hy with hy | hy
    · exact absurd rfl (L.own _ (PySem.mem_of_lookup hy)).2
    · exact look hy
  · have z : false = true := z
    cases z
  · have e3 : Vis scope y := e3
    have e1' : X.N[i]? = some y := e1
    rcases e3 with k | k | k
    · have e := (L.own _ (PySem.mem_of_lookup k)).1 rfl
      have e : y = x := e
      rw [e] at e1'
      exact absurd (List.mem_of_getElem? e1') L.out
    · exact absurd rfl (L.own _ (PySem.mem_of_lookup k)).2
    · obtain ⟨m, hn, hl⟩ := I.loc
      have hvis : Vis X.env.scope y := (L.free _ (PySem.mem_of_lookup k) rfl).elim (fun k => .inr (.inl k)) (fun k => .inr (.inr k))
      obtain ⟨w', r, q⟩ := hl i y v e1 e2 hvis
      obtain ⟨c2, h2⟩ := look k
      refine ⟨w', r, .inr ⟨.inr k, c2, h2, ?_⟩⟩
      have c1 := cm h2
      rcases q with ⟨k', _⟩ | ⟨_, c3, e', z⟩
      · have k' : X.env.scope.names.lookup y = some .local := k'
        rcases L.free _ (PySem.mem_of_lookup k) rfl with k2 | k2 <;> rw [show X.env.scope.names.lookup y = _ from k2] at k' <;> cases k'
      · rw [c1] at e'
        cases e'
        exact cellK (I.freeC y _ c1) z
  · obtain ⟨w', z⟩ := I.cell y c (cm e)
    exact ⟨w', cellK (I.freeC y c (cm e)) z⟩
  · obtain ⟨v, o, ho, hd⟩ := I.cell y c (cm e)
    exact un.free c o ho (I.freeC y c (cm e)) (by simp)
/-- the lambda is made -/
theorem lam_makeD {c P : Addr} {params : Arguments} {body : Expr} {scope : Scope} {pos : Pos} {Q : Value → Shared → Prop} {e0 : Expr} {v0 : V} (I : Inv X pins σ H s) (TB : TabB X.base X.mg c P) (hcode : X.env.code = .ref c)
    (hT : TabS H P (X.env.qual ++ "<lambda>")) (hd1 : params.defaults = [e0]) (hk0 : params.kw_defaults = []) (he0 : PE X e0 (tC v0)) (hev : evalEach [e0] X.env = eval e0 X.env :: evalEach [] X.env) (hfree : ∀ y ∈ scope.names, y.2 = .free → ∃ c, X.env.cells.lookup y.1 = some c)
    (h : ∀ (f c' T : Addr) (u pm ctv doc : Value) (H1 : Hp) (s' : Shared), Inv X pins σ H1 s' → TabUp P (X.env.qual ++ "<lambda>") H H1 → TabS H1 P (X.env.qual ++ "<lambda>") →
      s'.heap.get? f = some (PySem.W.kdv_obj "<lambda>" (X.env.qual ++ "<lambda>") params (.expr body) scope (cloFrom X.env.cells scope.names []) (.ref T) doc pm c' ctv) → s'.heap.get? T = some (PySem.W.kdv_tup [u]) → H1 f = none → H1 T = none → f ∉ frs X.stack → T ∉ frs X.stack → H1 c' = some (CodeO c' (X.env.qual ++ "<lambda>")) → Q (.ref f) s') :
    wpAny (model X.prog X.w) X.A (eval (.Lambda params body scope pos) X.env) Q X.xe s := by
  obtain ⟨ps, hP, ht, ha⟩ := hT
  refine PySem.W.kdv_lam (by rw [hd1]; rfl) hk0 ?_
  rw [hd1]
  rw [hev]
  refine evalAll_cons (thn (he0.run pins s σ H (fun v H1 => v = v0 ∧ H1 = H) I ⟨rfl, rfl⟩) fun u s0 ⟨v, H0, I0, r0, q0⟩ => ?_)
  obtain ⟨_, eH⟩ := q0
  rw [eH] at I0
  refine evalAll_nil ?_
  rw [makeFunction_eq]
  simp only [List.zip_nil_right, List.filterMap_nil, List.isEmpty_nil, if_true, pure_bind, List.isEmpty_cons, Bool.false_eq_true, if_false]
  refine wpAny_bind (wpAny_newTextTuple ?_)
  generalize hT0 : s0.heap.objs.size = T
  have I2 : Inv X pins σ H { s0 with heap := s0.heap.push (PySem.W.kdv_tup [u]) } := I0.kept (t' := s0.toks) fun b o e => Heap.get?_push_of_some _ e
  have gT : (s0.heap.push (PySem.W.kdv_tup [u])).get? T = some (PySem.W.kdv_tup [u]) := by
    rw [← hT0]
    exact Heap.get?_push_size _ rfl
  have nT : H T = none := by
    rw [← hT0]
    exact I0.hok.fresh (Nat.le_refl _)
  have bP : ({ s0 with heap := s0.heap.push (PySem.W.kdv_tup [u]) } : Shared).heap.BuiltinsAt X.mg P := TB.bm.keeps I2.bk
  have hP' : (s0.heap.push (PySem.W.kdv_tup [u])).get? P = some { cls := .none, data := .fields ps } := I2.hok P _ hP
  have nofr : ∀ f, s0.heap.objs.size ≤ f → f ∉ frs X.stack := fun f hf z => by
    rcases List.mem_cons.mp (I0.stkSub _ z) with e | e
    · have h1 := I0.lt
      rw [← e] at h1
      exact Nat.lt_irrefl _ (Nat.lt_of_lt_of_le h1 hf)
    · exact I0.nofs hf e
  have frT := nofr T (Nat.le_of_eq hT0)
  have nPT : T ≠ P := fun z => by
    rw [z] at nT
    rw [nT] at hP
    cases hP
  cases hc : codeAmong pos ps.toList with
  | none =>
    refine PySem.W.kdv_makeTail (mg := X.mg) (c := c) (P := P) (ps := ps) (closure_ok hfree) I2.ok.glob (I2.mod.glob.keeps I2.bk) hcode (TB.code.keeps I2.bk) hP' ht hc TB.gP bP fun c' ctv doc h' tk hx hge hlt hrec htb => ?_
    have hge : (s0.heap.push (PySem.W.kdv_tup [u])).objs.size ≤ c' := hge
    obtain ⟨c2, oc, vs, t, e2, hoc, hd, hv⟩ := hrec
    cases e2
    have hsz : (s0.heap.push (PySem.W.kdv_tup [u])).objs.size ≤ h'.objs.size := Nat.le_trans hge (Nat.le_of_lt hlt)
    have hsz0 : s0.heap.objs.size ≤ h'.objs.size := Nat.le_trans (by rw [Heap.size_push]; omega) hsz
    have nC : H c' = none := I2.hok.fresh hge
    have nTC : T ≠ c' := fun z => by
      rw [Heap.size_push] at hge
      omega
    have I1 := inv_table (t' := tk) (more := #[rawInt pos.line, rawInt pos.col, .ref c']) (h' := h'.push (PySem.W.kdv_obj "<lambda>" (X.env.qual ++ "<lambda>") params (.expr body) scope (cloFrom X.env.cells scope.names []) (.ref T) doc ((X.mg "__name__").getD .none) c' ctv)) I2 hP
      (fun b o hb e => Heap.get?_push_of_some _ (hx b o hb e)) (Heap.get?_push_of_some _ htb) hge ⟨oc, vs, t, Heap.get?_push_of_some _ hoc, hd, hv⟩
    have eL : (ps ++ #[rawInt pos.line, rawInt pos.col, .ref c']).toList = ps.toList ++ [rawInt pos.line, rawInt pos.col, .ref c'] := by simp
    refine h h'.objs.size c' T u ((X.mg "__name__").getD .none) ctv doc _ _ I1 (.inr ⟨c', ps, pos, hP, nC, rfl⟩) ⟨_, by rw [upd_ne (ne_of_none hP nC), upd_same], by rw [eL]; exact PySem.TriplesOk_snoc _ _ _ _ ht, fun p' cv hcv => ?_⟩ (Heap.get?_push_size _ rfl) (Heap.get?_push_of_some _ (hx T _ nPT gT)) ?_ ?_ (nofr _ hsz0) frT upd_same
    · rw [eL] at hcv
      rcases among_app _ ht hcv with z | z
      · obtain ⟨c0, e1, e2⟩ := ha p' cv z
        refine ⟨c0, e1, ?_⟩
        rw [upd_ne (ne_of_none e2 nC), upd_ne (fun z => codeO_ne ps (Option.some.inj (e2.symm.trans (by rw [z]; exact hP))))]
        exact e2
      · exact ⟨c', z, upd_same⟩
    · have n1 : h'.objs.size ≠ c' := Nat.ne_of_gt hlt
      have n2 : h'.objs.size ≠ P := Nat.ne_of_gt (Nat.lt_of_lt_of_le (Heap.lt_size hP') hsz)
      rw [upd_ne n1, upd_ne n2]
      exact I2.hok.fresh hsz
    · rw [upd_ne nTC, upd_ne nPT]
      exact nT
  | some cv =>
    obtain ⟨c', e, hco⟩ := ha pos cv hc
    subst e
    refine PySem.W.kdv_makeTailHit (mg := X.mg) (c := c) (P := P) (ps := ps) (closure_ok hfree) I2.ok.glob (I2.mod.glob.keeps I2.bk) hcode (TB.code.keeps I2.bk) hP' ht hc bP fun ctv doc h' tk hx hsz => ?_
    have hsz : (s0.heap.push (PySem.W.kdv_tup [u])).objs.size ≤ h'.objs.size := hsz
    have hsz0 : s0.heap.objs.size ≤ h'.objs.size := Nat.le_trans (by rw [Heap.size_push]; omega) hsz
    have I1 : Inv X pins σ H { s0 with heap := h'.push (PySem.W.kdv_obj "<lambda>" (X.env.qual ++ "<lambda>") params (.expr body) scope (cloFrom X.env.cells scope.names []) (.ref T) doc ((X.mg "__name__").getD .none) c' ctv), toks := tk } := I2.kept fun b o e => Heap.get?_push_of_some _ (hx b o e)
    exact h h'.objs.size c' T u ((X.mg "__name__").getD .none) ctv doc H _ I1 (.inl rfl) ⟨ps, hP, ht, ha⟩ (Heap.get?_push_size _ rfl) (Heap.get?_push_of_some _ (hx T _ gT)) (I2.hok.fresh hsz) nT (nofr _ hsz0) frT hco
end
section
variable {X : Cx} {pins : List (Addr × Obj)} {σ : L2.St} {H : Hp} {s : Shared} {x : Str}
/-- a(), in the def that got the lambda -/
theorem pe_actD {CXg : CXT} {Eg : XK} {Ng : List Str} {qg : Str} {sg : Scope} {g f c' T : Addr} {cdg u pm ctv doc : Value} {params : Arguments} {body : Expr} {scope : Scope} {k i : Nat} {a : Str} {pn : List (Addr × Obj)} {xe : Value → Shared → Prop} {W : WX} {E : XK} {tb : TE} {p1 p2 : Pos}
    (I : Inv X pins σ H s) (L : LamSD X.env.scope scope X.N x) (hf : s.heap.get? f = some (PySem.W.kdv_obj "<lambda>" (X.env.qual ++ "<lambda>") params (.expr body) scope (cloFrom X.env.cells scope.names []) (.ref T) doc pm c' ctv)) (hft : s.heap.get? T = some (PySem.W.kdv_tup [u])) (hfn : H f = none) (hTn : H T = none) (hfr : f ∉ frs X.stack) (hTr : T ∉ frs X.stack)
    (hbind : ∃ kk, bindArgs (PySem.W.kdv_fn "<lambda>" (X.env.qual ++ "<lambda>") params (.expr body) scope (cloFrom X.env.cells scope.names []) (.ref T) doc pm (.ref c') ctv) ⟨[], []⟩ = seqItems? (.ref T) >>= kk ∧ kk (some #[u]) = pure [(x, u)])
    (tk : Takes ((cxOf CXg X.prog X.w X.K X.mg X.base Ng qg sg g cdg X.A X.stack s H Eg).tr pn xe) W) (hr : Room (k + 1) (X.A.deeper (envOfC qg sg s.heap.objs.size g cdg)))
    (hbody : ∀ (A : Around) (outer : List Env) (s : Shared) (H : Hp), Room k (A.deeper (lamEnv X scope s.heap.objs.size f c')) → PE (lamCx X A outer s H E scope f c') body tb)
    (hN : Ng[i]? = some a) (hv : Vis sg a) (hd : (a == ("__debug__" : Str)) = false := by decide) (hcd : (a == ("__classdict__" : Str)) = false := by decide) :
    PE ((cxOf CXg X.prog X.w X.K X.mg X.base Ng qg sg g cdg X.A X.stack s H Eg).tr pn xe) (.Call (.Name a p1) [] [] p2)
      (fun σZ HZ Q => σZ[i]? = some (some (.ref f)) ∧ HZ c' = some (CodeO c' (X.env.qual ++ "<lambda>")) ∧ (∀ cls d H', E cls d H' → W cls d σZ H') ∧ tb σ HZ Q) := by
  refine ⟨fun pinsZ sZ σZ HZ Q IZ h => ?_⟩
  obtain ⟨hs, hc, hW, ht⟩ := h
  refine wpAny_Call_Name_kw (thn ((pe_var (pos := p1) (i := i) hN hv hd hcd).run pinsZ sZ σZ HZ (fun v H1 => v = .ref f ∧ H1 = HZ) IZ ⟨.ref f, hs, rfl, rfl⟩) fun u' s1 ⟨v, H1, I1, r1, q1⟩ => ?_)
  obtain ⟨ev, eH⟩ := q1
  subst ev
  rw [eH] at I1
  obtain rfl : u' = Value.ref f := r1
  have of1 : s1.heap.get? f = some (PySem.W.kdv_obj "<lambda>" (X.env.qual ++ "<lambda>") params (.expr body) scope (cloFrom X.env.cells scope.names []) (.ref T) doc pm c' ctv) := I1.base.keep f _ hf hfn hfr (fun z => nomatch (show f ∈ ([] : List Addr) from z))
  have oT1 : s1.heap.get? T = some (PySem.W.kdv_tup [u]) := I1.base.keep T _ hft hTn hTr (fun z => nomatch (show T ∈ ([] : List Addr) from z))
  refine PySem.W.callWith_F0 ⟨_, _, _, _, of1⟩ ?_
  have un : Un (frs X.stack) [] H HZ s.heap s1.heap := I1.base
  obtain ⟨⟨oc, vs, t, hoc, hdc, hvc⟩, _, _⟩ := I1.hok c' _ hc
  obtain ⟨kk, b1, b2⟩ := hbind
  have hbt : BindsTo s1 (PySem.W.kdv_fn "<lambda>" (X.env.qual ++ "<lambda>") params (.expr body) scope (cloFrom X.env.cells scope.names []) (.ref T) doc pm (.ref c') ctv) ⟨[], []⟩ [(x, u)] := BindsTo.of_defaults rfl oT1 rfl b1 b2
  have rc : codeAny (model X.prog X.w) (X.A.deeper (envOfC qg sg s.heap.objs.size g cdg)) (.call (.ref f) ⟨[], []⟩) (CR (L2.CX X.prog X.w) (envOfC qg sg s.heap.objs.size g cdg :: X.stack) X.prog X.w HZ s1 Q E) s1 := by
    refine PySem.W.kla_callFunE hr.depth of1 rfl L.co L.gen rfl ⟨c', oc, vs, t, rfl, hoc, hdc, hvc⟩ (hbt _ _ _ _ ?_)
    refine wpAny_newFunctionEnv (fun y hy => (L.own y hy).2) (fun y hy => by rw [List.mem_singleton.mp hy]; exact L.here) (fun h₁ hns hsb => ⟨I1.nolimit.fresh _ hsb, ?_⟩) L.kind
    show codeAny _ _ (.expr body (lamEnv X scope s1.heap.objs.size f c')) _ _
    have kp : ∀ b o, s1.heap.get? b = some o → h₁.get? b = some o := fun b o e => hsb.extBut b o (Nat.ne_of_lt (Heap.lt_size e)) (Heap.get?_push_of_some _ e)
    have J : Inv (lamCx X (X.A.deeper (envOfC qg sg s.heap.objs.size g cdg)) (envOfC qg sg s.heap.objs.size g cdg :: X.stack) s1 HZ E scope f c') [] σ HZ { s1 with heap := h₁, toks := s1.toks + ([(x, u)] : List (Str × Value)).length } :=
      lam_startD I L I1.env0 hr.hd un hns kp
    refine PySem.W.kla_codeExpr (wpAny_mono ((hbody _ _ s1 HZ (hr.deeper _)).run [] _ _ HZ Q J ht) (fun v s' hq => ?_) fun e s' hq => hq)
    obtain ⟨w', H', J', rv, q⟩ := hq
    exact ⟨w', H', J'.os, J'.bare, J'.base, J'.hok, rv, q⟩
  refine wpAny_call (codeAny_mono rc fun r s' hq => ?_)
  cases r with
  | error e => exact tk e s' (XE.of_call I1 (fun cls d H' h => hW cls d H' h) hq)
  | ok fl =>
    cases fl with
    | ret u => exact I1.after hq
    | next => exact False.elim hq
    | brk => exact False.elim hq
    | cont => exact False.elim hq
end
section
variable {X : Cx}
theorem pe_lamcallD {TT : (XK → Hp → VK → Prop) → Hp → VK → Prop} {x a xd : Str} {g c P : Addr} {k : Nat} {pg : Arguments} {bg : List Stmt} {sg : Scope} {dV kV doc pm cdv ct oc : Value} {an od : Option Addr} {osl : Array (Option Value)} {Ng : List Str}
    {params : Arguments} {body : Expr} {scope : Scope} {t : XK → TE} {p lpos pos : Pos} {e0 : Expr} {v0 : V} (hg : Gl X x) (hm : X.mg x = some (.ref g)) (hk : PySem.W.keepIn X.K (.ref g) = true)
    (lk : X.K.lookup g = some ⟨oc, od, .func (PySem.W.fnOf x x pg bg sg dV kV doc pm an cdv ct), osl⟩) (hcg : PySem.W.codeIn X.K cdv x = true) (hb : L2.Binds X.K (PySem.W.fnOf x x pg bg sg dV kV doc pm an cdv ct) [a] []) (Sg : FnScope Ng [a] sg) (hNg : Ng[0]? = some a) (hva : Vis sg a)
    (hG : GivesTo3 X Ng x sg g cdv bg a (X.env.qual ++ "<lambda>") TT)
    (TB : TabB X.base X.mg c P) (hcode : X.env.code = .ref c) (hr : Room (k + 2) X.A) (L : LamSD X.env.scope scope X.N xd) (hd1 : params.defaults = [e0]) (hk0 : params.kw_defaults = []) (he0 : PE X e0 (tC v0))
    (hbind : ∀ (q : Str) (cl : List (Str × Addr)) (T : Addr) (doc pm cv ctv u : Value), ∃ kk, bindArgs (PySem.W.kdv_fn "<lambda>" q params (.expr body) scope cl (.ref T) doc pm cv ctv) ⟨[], []⟩ = seqItems? (.ref T) >>= kk ∧ kk (some #[u]) = pure [(xd, u)])
    (hbody : ∀ (A : Around) (outer : List Env) (s : Shared) (H : Hp) (E : XK) (f c' : Addr), Room k (A.deeper (lamEnv X scope s.heap.objs.size f c')) → PE (lamCx X A outer s H E scope f c') body (t E))
    (hev : evalEach [e0] X.env = eval e0 X.env :: evalEach [] X.env := by rfl)
    (hdb : (x == ("__debug__" : Str)) = false := by decide) (hd : (a == ("__debug__" : Str)) = false := by decide) (hcd : (a == ("__classdict__" : Str)) = false := by decide) :
    PE X (.Call (.Name x p) [.Lambda params body scope lpos] [] pos) (tLam3 P (X.env.qual ++ "<lambda>") TT t) := by
  refine ⟨fun pins s σ H Q I h => ?_⟩
  obtain ⟨hT, h⟩ := h
  refine wpAny_Call_Name_kw (ld_glob I hg hm ?_ hdb)
  refine PySem.W.callWith_K (h₀ := X.base) I.ok.mod.kin hk ?_ (by rfl) (by rfl)
  show wpAny _ _ (spliced ((false, eval (.Lambda params body scope lpos) X.env) :: backTo pos (starEach [] X.env))) _ _ s
  refine Calls.spliced_cons (lam_makeD I TB hcode hT hd1 hk0 he0 hev (L.has I.ok) fun f c' T u pm' ctv doc' H1 s' I1 eN T1 hf hft hfn hTn hfr hTr hco => ?_)
  refine Calls.spliced_nil ⟨I1.kIn, ?_⟩
  have rc : codeAny (model X.prog X.w) X.A (.call (.ref g) ⟨[.ref f], []⟩) (CR C8.CX0 X.stack X.prog X.w H1 s' Q C8.E0) s' := by
    refine run_ofS (N := Ng) (ps := [a]) (us := [.ref f]) (vs := [.ref f]) lk hcg Sg hr I1.env0 (hb s' [.ref f] I1.kIn rfl) (.cons rfl .nil) rfl fun hr' => ?_
    obtain ⟨t', ht', hq'⟩ := hG f c' s' H1 Q (fun E H' Q' => t E σ H' Q') (fun W pn xe E p1 p2 tk => pe_actD (i := 0) I1 L hf hft hfn hTn hfr hTr (hbind _ _ _ _ _ _ _ _) tk hr' (fun A outer s H hr2 => hbody A outer s H E f c' hr2) hNg hva hd hcd) hco (h H1 eN T1)
    exact ⟨t', ht'.nox, hq'⟩
  refine wpAny_call (codeAny_mono rc fun r s2 hq => ?_)
  cases r with
  | error e => exact (show False from hq).elim
  | ok fl =>
    cases fl with
    | ret u => exact I1.after hq
    | next => exact False.elim hq
    | brk => exact False.elim hq
    | cont => exact False.elim hq
end
section
variable {X : Cx} {E : WX} {x a xd : Str} {g c P : Addr} {k n : Nat} {pg : Arguments} {bg : List Stmt} {sg : Scope} {cdv : Value} {Ng : List Str} {params : Arguments} {body : Expr} {scope : Scope} {p lpos pos : Pos} {cs : List Value} {Cs : List Addr} {F : Addr → Addr → Fn} {fm : M D} {e0 : Expr} {v0 : V}
theorem pd_toldD (T : Told X.K X.mg x a g pg bg sg cdv Ng) (hg : Gl X x) (Sg : FnScope Ng [a] sg) (hNg : Ng[0]? = some a) (hva : Vis sg a) (hG : GivesTo3 X Ng x sg g cdv bg a (X.env.qual ++ "<lambda>") (TTold3 X.K cs Cs F)) (hEx : ∀ C ∈ Cs, PySem.W.exmAny X.K (.ref C) cs = some true)
    (TB : TabB X.base X.mg c P) (hcode : X.env.code = .ref c) (hr : Room (k + 2) X.A) (L : LamSD X.env.scope scope X.N xd) (hd1 : params.defaults = [e0]) (hk0 : params.kw_defaults = []) (he0 : PE X e0 (tC v0))
    (hbind : ∀ (q : Str) (cl : List (Str × Addr)) (T : Addr) (doc pm cv ctv u : Value), ∃ kk, bindArgs (PySem.W.kdv_fn "<lambda>" q params (.expr body) scope cl (.ref T) doc pm cv ctv) ⟨[], []⟩ = seqItems? (.ref T) >>= kk ∧ kk (some #[u]) = pure [(xd, u)])
    (hbody : ∀ (A : Around) (outer : List Env) (s : Shared) (H : Hp) (E : XK) (f c' : Addr), Room k (A.deeper (lamEnv X scope s.heap.objs.size f c')) → PE (lamCx X A outer s H E scope f c') body (tD X.K (fun cls d _ H' => E cls d H') fm))
    (hev : evalEach [e0] X.env = eval e0 X.env :: evalEach [] X.env := by rfl)
    (hdb : (x == ("__debug__" : Str)) = false := by decide) (hd : (a == ("__debug__" : Str)) = false := by decide) (hcd : (a == ("__classdict__" : Str)) = false := by decide) :
    PE X (.Call (.Name x p) [.Lambda params body scope lpos] [] pos) (tD X.K E (tellM n P (X.env.qual ++ "<lambda>") Cs F fm)) := by
  obtain ⟨oc, dV, kV, doc, pm, ct, an, od, osl, lk, hb⟩ := T.ex
  exact pe_weak (pe_lamcallD (TT := TTold3 X.K cs Cs F) (t := fun E' => tD X.K (fun cls d _ H' => E' cls d H') fm) hg T.mg T.kp lk T.code hb Sg hNg hva hG TB hcode hr L hd1 hk0 he0 hbind hbody hev hdb hd hcd) (told_read hEx)
end
end Nc
namespace Nc
open PySem PySem.Spec PyProof.Rows L2 GenW
/-- an exception of the class C alone -/
def exF (C : Addr) (F : Fn) : Fn := fun ds g => match F ds g with
  | .ex e g' => if e.C = C then .ex e g' else .no
  | _ => .no
def nstB (K : PySem.W.Frag) (C : Addr) : Bool := decide (PySem.W.subIn K (.ref C) (.type "StopIteration") = some false)
def spX (K : PySem.W.Frag) (C : Addr) (F : Fn) : SpG := fun vs H _ E => spD K (exF C F) vs H (fun _ _ => False) E
theorem exF_inv {C : Addr} {F : Fn} {ds : List D} {g : Cells} {r : Rf} (h : exF C F ds g = r) (hr : r ≠ .no) : ∃ e g', F ds g = .ex e g' ∧ e.C = C ∧ r = .ex e g' := by
  unfold exF at h
  split at h
  · rename_i e g' eq
    split at h
    · rename_i hc
      exact ⟨e, g', eq, hc, h.symm⟩
    · exact absurd h.symm hr
  · exact absurd h.symm hr
theorem spX_strong {K : PySem.W.Frag} {C : Addr} {F : Fn} {vs : List V} {H : Hp} {Q Q' : VK} {E : XK} (h : spD K (exF C F) vs H Q E) : spD K (exF C F) vs H Q' (fun cls d H' => E cls d H' ∧ cls = .ref C) := by
  obtain ⟨B, ds, g, c, k⟩ := h
  refine ⟨B, ds, g, c, ?_⟩
  have z : exF C F ds g ≠ .no := fun z => by rw [z] at k; exact k
  obtain ⟨e, g', e1, e2, e3⟩ := exF_inv rfl z
  rw [e3] at k ⊢
  exact fun oc B' H' st r => ⟨k oc B' H' st r, by rw [e2]⟩
theorem gss_never {X : Cx} {rest : List Stmt} : GSs X rest (fun _ _ _ _ => False) := ⟨fun A S ip R n ys s₀ c fs K J gd lv s σ H D g hn k hI ht => ht.elim⟩
theorem gfnX_ofD {P : Program} {w : World} {K : PySem.W.Frag} {mg : Str → Option Value} {base : Heap} {k : Nat} {f C : Addr} {fd : FuncData} {x qual : Str} {params : Arguments} {st0 : Stmt} {body rest : List Stmt} {scope : Scope} {dvs : List V} {kws : List (Str × V)} {N ps : List Str} {h0 : M Out}
    (U : FunD K x qual params body scope dvs kws f fd) (S : GScope N ps scope) (eb : body = st0 :: rest)
    (hbody : ∀ (cdv : Value) (A : Around) (outer : List Env) (s : Shared) (H : Hp) (E : XK) (pn : List (Addr × Obj)), Room k (A.deeper (envOfC qual scope s.heap.objs.size f cdv)) → PS (gcxOf P w K mg base N qual scope f cdv A outer s H E pn) st0 (tS K (fun cls d _ H => E cls d H) h0)) :
    GFn P w K mg base (k + 1) f fd ps (spX K C (runB N.length ps.length h0)) := by
  obtain ⟨oc, od, dV, kV, doc, pm, an, cdv, ct, osl, rfl, lk, hcd, _, _⟩ := U.ex
  have inv : ∀ vs H E, spD K (exF C (runB N.length ps.length h0)) vs H (fun _ _ => False) E → spD K (runB N.length ps.length h0) vs H (fun _ _ => False) E := fun vs H E h => spD_imp (fun ss g r e hr => by
    obtain ⟨y, g', e1, _, e3⟩ := exF_inv e hr
    rw [e3, e1]) _ _ _ _ h
  refine gfn_of lk hcd S (fun vs H Q E h => spD_len (fun ds g e => runB_len e) _ _ _ _ (inv vs H E h)) (fun A outer s H vs Q E pn hr hsp => ?_)
  subst eb
  refine ⟨_, gss_cons (gs_ps (hbody cdv A outer s H E pn hr)) gss_never, ?_⟩
  obtain ⟨B, ρ, c, q⟩ := body_end (N := N) (X := gcxOf P w K mg base N qual scope f cdv A outer s H E pn) (inv vs H E hsp)
  refine ⟨B, ρ, c, ?_⟩
  cases e : h0 ρ with
  | no => rw [e] at q; exact q
  | ex x ρ' => rw [e] at q; exact q
  | ok o ρ' =>
    rw [e] at q
    cases o with
    | nx => exact fun σ' B' H' st => (q σ' B' H' st).elim
    | bk => exact fun σ' B' H' st => (q σ' B' H' st).elim
    | ct => exact fun σ' B' H' st => (q σ' B' H' st).elim
    | rt d => exact fun v σ' B' H' st r => (q v σ' B' H' st r).elim
    | rn i => exact ⟨q.1, fun v σ' B' H' st r => (q.2 v σ' B' H' st r).elim⟩
/-- list(o.m(..)): the exception -/
def lgXM (C : Addr) (m : Str) (Cx : Addr) (F : Fn) (fo : M D) (as : M (List D)) : M D := fo >>= fun d => getO (.d d) >>= fun d0 => M.opt (slfD C m d0) >>= fun _ => as >>= fun ds => callF (exF Cx F) (d :: ds)
section
variable {X : Cx} {C Ce f : Addr} {m : Str} {e o : Expr} {es : List Expr} {fo : M D} {as : M (List D)} {F : Fn} {k : Nat} {fd : FuncData} {ps : List Str} {apos pos pos' p : Pos} {pl : Sem Bool} {E : XK} {nm : Str}
theorem pd_listGX {dd : List D} {dvs : List V} (hns : nstB X.K Ce = true) (c : Cls X.K C) (hm : Meth X.K C m f) (G : GFn X.prog X.w X.K X.mg X.base k f fd ps (spX X.K Ce F)) (hr0 : Room k X.A) (hr : Room (k + 3) X.A) (hb : ∃ dus, Vals dvs dus ∧ Binds X.K fd ps dus) (hD : ∀ B, Reps X.K B dd dvs)
    (tk : Takes X (fun cls d _ H => E cls d H)) (hg : Gl X nm) (hmg : X.mg nm = none) (hv : bootBuiltins nm = some (.type "list")) (he : PE X o (tD X.K (fun cls d _ H => E cls d H) fo)) (ha : PA X (e :: es) (tL X.K (fun cls d _ H => E cls d H) as))
    (hnm : nm ≠ "__name__" := by decide) (hdb : (nm == ("__debug__" : Str)) = false := by decide)
    (he1 : starEach [.Call (.Attribute o m apos) (e :: es) [] pos'] X.env = (false, eval (.Call (.Attribute o m apos) (e :: es) [] pos') X.env) :: starEach [] X.env := by rfl)
    (hst : starEach (e :: es) X.env = (false, eval e X.env) :: starEach es X.env := by rfl) (hpl : (backTo pos' (starEach es X.env)).any (·.1) = false := by rfl)
    (ht : eval (.Call (.Attribute o m apos) (e :: es) [] pos') X.env = (do
      let ov ← eval o X.env
      standAt apos.atName
      let (f, first) ← holding [ov] (getMethod ov m pl)
      callWith pos' f first (backTo pos' (starEach (e :: es) X.env)) (backToKw pos' (keywordEach [] X.env))) := by rfl) :
    PE X (.Call (.Name nm p) [.Call (.Attribute o m apos) (e :: es) [] pos'] [] pos) (tD X.K (fun cls d _ H => E cls d H) (lgXM C m Ce F fo (apM as dd))) := by
  obtain ⟨dus, hv1, hb⟩ := hb
  have hE : ∀ cls d H, (E cls d H ∧ cls = .ref Ce) → PySem.W.subIn X.K cls (.type "StopIteration") = some false := fun cls d H h => by
    rw [h.2]
    exact of_decide_eq_true hns
  have pass : Passes (L2.CX X.prog X.w) X (fun cls d H => E cls d H ∧ cls = .ref Ce) := fun _ _ _ _ e s' I c => tk e s' (XE.of_call I (fun _ _ _ h => h.1) c)
  refine pe_weak (pe_listG (k := k) (E := fun cls d H => E cls d H ∧ cls = .ref Ce) (pgen_meth (E := fun cls d H => E cls d H ∧ cls = .ref Ce) (pl := pl) he c hm G hr0 hb hv1 ha hst hpl ht) pass hE hr hg hmg hv hnm hdb he1) ?_
  rintro σ H Q ⟨B, ρ, c0, h⟩
  refine ⟨B, ρ, c0, h.seq.imp ?_⟩
  rintro d ρ' x B' H1 - - - ⟨d, B1, ρ1, st1, rx, h1⟩
  have rx : Rep X.K B1 d x := rx
  obtain ⟨d0, e1, h1⟩ := h1.getO
  obtain ⟨u, ez, h1⟩ := h1.optSeq
  obtain ⟨a, dx, fs, ex, q1, l⟩ := slf_top (RK.top (H0 := H1) st1.cf (o := .d d) rx e1) ez
  refine ⟨a, dx, fs, ex, q1, l, B1, ρ1, st1.cf, ?_⟩
  have hap : (apM as dd >>= fun ds => callF (exF Ce F) (d :: ds)) ρ1 = (as >>= fun ds => callF (exF Ce F) (d :: (ds ++ dd))) ρ1 := by
    unfold apM
    cases ea : as ρ1 with
    | no => rw [bnd_no ea, bnd_no (bnd_no ea)]
    | ex y ρ' => rw [bnd_ex ea, bnd_ex (bnd_ex ea)]
    | ok ds ρ' => rw [bnd_ok ea, bnd_ok (a := ds ++ dd) (ρ' := ρ') (by rw [bnd_ok ea]; rfl)]
  rw [hap] at h1
  refine h1.seq.imp ?_
  rintro d2 ρ' vs B' H2 - - - ⟨ds, B2, ρ2, st2, ra, h2⟩
  have ra : Reps X.K B2 ds vs := ra
  exact spX_strong (call_core st2.cf (Reps.cons (rx.mono st2.bb) (ra.append (hD B2))) h2)
end
end Nc
namespace Nc
open PySem PySem.Spec PyProof.Rows L2
section
variable {ρ : Rho} {C : Addr} {m : Str} {F : Fn} {f fa fb fo : M D} {as ks : M (List D)} {ds zs xs : List D} {l : List (Option Slot)} {g : Cells} {d e : D} {u : Unit} {i p n : Nat} {perm : List Nat} {op : Int → Int → Int} {G : List D → Option (List D)} {o : Out} {t : M Bool} {a b : Gn} {q : Out × List D}
def augK (op : Int → Int → Int) (i : Nat) (d e : D) (ρ : Rho) : Rs Out := match iiD op d e with
  | some z => .ok .nx (ρ.set i (some (.val z)))
  | none => .no
theorem augK_i {x y : Int} : augK op i (.int x) (.int y) ρ = .ok .nx (ρ.set i (some (.val (.int (op x y))))) := Eq.trans (Eq.refl _) (Eq.refl _)
def negK (z : D) (ρ : Rho) : Rs D := match notBl z with
  | some y => .ok y ρ
  | none => .no
theorem negK_b {x : Bool} : negK (.bl x) ρ = .ok (.bl (!x)) ρ := Eq.trans (Eq.refl _) (Eq.refl _)
theorem endK_b {x : Bool} : endK ckBl l (.ok (.bl x) g) = .ok (.bl x) ⟨l, g⟩ := Eq.trans (Eq.refl _) (Eq.refl _)
def noD (F : Fn) (d e : D) (_ : Unit) (ρ : Rho) : Rs D := (ckF ckBl F [d, e] ρ).bnd negK
theorem noD_r : noD F d e u ⟨l, g⟩ = (endK ckBl l (F [d, e] g)).bnd negK := by
  unfold noD
  rw [ckF_r]
def noC (C : Addr) (F : Fn) (d e : D) (_ : Unit) (ρ : Rho) : Rs D := (lkB (isObD C) e ρ).bnd (noD F d e)
theorem noC_r : noC C F d e u ρ = (lkB (isObD C) e ρ).bnd (noD F d e) := Eq.trans (Eq.refl _) (Eq.refl _)
def noB (C : Addr) (F : Fn) (d e : D) (ρ : Rho) : Rs D := (lkB (isObD C) d ρ).bnd (noC C F d e)
theorem noB_r : noB C F d e ρ = (lkB (isObD C) d ρ).bnd (noC C F d e) := Eq.trans (Eq.refl _) (Eq.refl _)
def noA (C : Addr) (F : Fn) (fb : M D) (d : D) (ρ : Rho) : Rs D := (fb ρ).bnd (noB C F d)
theorem noA_r : noA C F fb d ρ = (fb ρ).bnd (noB C F d) := Eq.trans (Eq.refl _) (Eq.refl _)
theorem neO_r : neOM C F fa fb ρ = (fa ρ).bnd (noA C F fb) := by
  unfold neOM
  rw [bind_r]
  congr 1
  funext d ρ1
  rw [bind_r]
  unfold noA
  congr 1
  funext e ρ2
  rw [getO_bnd]
  unfold noB
  congr 1
  funext u ρ3
  rw [getO_bnd]
  unfold noC
  congr 1
  funext u ρ4
  rw [bind_r]
  unfold noD
  congr 1
  funext z ρ5
  unfold negK
  cases notBl z <;> rfl
theorem iso_o {fs : List Str} {es : List D} : isoD C (.ob C fs es) = some (.bl true) := by
  simp only [isoD, if_true]
end
def EV31 := And.intro @augK_i (And.intro @negK_b (And.intro @endK_b (And.intro @noD_r (And.intro @noC_r (And.intro @noB_r (And.intro @noA_r (And.intro @neO_r @iso_o)))))))
end Nc
namespace Nc
open PySem PySem.Spec PyProof.Rows L2
end Nc
namespace Nc
open PySem PySem.Spec PyProof.Rows L2 StX
def rInOX (C : Addr) (sp : Sp) (E : XK) : R2 := fun x y H Q => ∃ a dx fs, y = .ref a ∧ H a = some (.ins C dx fs) ∧ sp [.ref a, x] H (fun v H' => ∃ b, v = .bl b ∧ Q (.bl b) H') E
section
variable {X : Cx} {E : XK} {C f : Addr} {fd : FuncData} {ps : List Str} {sp : Sp} {k : Nat} {a o : Expr} {fa fo : M D} {F : Fn} {pos : Pos}
theorem op_inOX (hs : PySem.W.findIn X.K (.ref C) "__contains__" = some (some (.ref f))) (hf : PySem.W.isFn X.K (.ref f) = true) (G : FnOk X.prog X.w X.K X.mg X.base (L2.CX X.prog X.w) k f fd ps sp) (hr : Room k X.A) (hb : Binds X.K fd ps []) (tk : Takes X (fun cls d _ H => E cls d H)) : OpR X (compareOp .In) (rInOX C sp E) := by
  intro pins s σ H x y v u Q I rx ry h
  obtain ⟨a, dx, fs, rfl, ea, q⟩ := h
  obtain rfl : u = Value.ref a := ry
  obtain ⟨mA, O, _⟩ := ins_get I.hok ea
  obtain ⟨od, J, _⟩ := O.look
  show wpAny _ _ (contains (.ref a) v >>= fun b => pure (Value.bool b)) _ _ _
  refine wpAny_bind (contains_own I.kIn J hs (beq_iff_eq.mp hf) (thn (run_fnS (E := WE (fun cls d _ H => E cls d H)) (us := [.ref a, v]) (vs := [.ref a, x]) G hr hb (passAt tk σ) I (.cons rfl (.cons rx .nil)) q) fun r s' ⟨w', H', I', rw', b, eb, q⟩ => ?_))
  subst eb
  cases rw'
  exact wpAny_truthy_bool (wpAny_pure ⟨.bl b, H', I', rfl, q⟩)
def inFX (F : Fn) (d e : D) : M D := fun ρ => match F [d, e] ρ.g with
  | .ok (.bl b) g => .ok (.bl b) ⟨ρ.l, g⟩
  | .ex e g => .ex e ⟨ρ.l, g⟩
  | _ => .no
def inOMX (C : Addr) (F : Fn) (fa fo : M D) : M D := fa >>= fun e => fo >>= fun d => getO (.d d) >>= fun d0 => M.opt (isObD C d0) >>= fun _ => inFX F d e
theorem inOX_read : ∀ σ H Q, tD X.K (fun cls d _ H => E cls d H) (inOMX C F fa fo) σ H Q → tOp (rInOX C (spD X.K F) E) (tD X.K (fun cls d _ H => E cls d H) fa) (tD X.K (fun cls d _ H => E cls d H) fo) σ H Q := by
  rintro σ H Q ⟨B, ρ, c0, h⟩
  refine ⟨B, ρ, c0, h.seq.imp ?_⟩
  rintro d ρ' x B' H1 - - - ⟨e, B1, ρ1, st1, rx, h1⟩
  refine ⟨B1, ρ1, st1.cf, h1.seq.imp ?_⟩
  rintro d ρ' y B' H2 - - - ⟨d, B2, ρ2, st2, ry, h2⟩
  have rx : Rep X.K B2 e x := Rep.mono st2.bb rx
  have ry : Rep X.K B2 d y := ry
  obtain ⟨d0, e1, h3⟩ := h2.getO
  obtain ⟨u, ez, h4⟩ := h3.optSeq
  obtain ⟨a, dx, fs, ex, q1⟩ := isOb_top (RK.top (H0 := H2) st2.cf (o := .d d) ry e1) ez
  subst ex
  have h4 : At X.K (fun cls d _ H => E cls d H) (RD X.K) σ B2 H2 ρ2 Q (inFX F d e ρ2) := h4
  refine ⟨a, dx, fs, rfl, q1, B2, [d, e], ρ2.g, st2.cf.plain (Reps.cons ry (Reps.cons rx Reps.nil)), ?_⟩
  unfold inFX at h4
  cases ef : F [d, e] ρ2.g with
  | no =>
    simp only [ef] at h4
    exact h4.elim
  | ex e g' =>
    simp only [ef] at h4
    exact fun oc B' H' st r => h4 oc σ B' H' (call_back st2.cf st) r
  | new o g' =>
    simp only [ef] at h4
    exact h4.elim
  | ok d g' =>
    cases d <;> simp only [ef] at h4 <;> try exact h4.elim
    intro v B' H' st r
    exact ⟨_, rep_bl r, h4 _ _ _ (call_back st2.cf st) (by show Rep X.K _ (.bl _) _; simp only [Rep])⟩
theorem pd_inOX (hs : PySem.W.findIn X.K (.ref C) "__contains__" = some (some (.ref f))) (hf : PySem.W.isFn X.K (.ref f) = true) (G : FnOk X.prog X.w X.K X.mg X.base (L2.CX X.prog X.w) k f fd ps (spD X.K F)) (hr : Room k X.A) (hb : Binds X.K fd ps []) (tk : Takes X (fun cls d _ H => E cls d H)) (ha : PE X a (tD X.K (fun cls d _ H => E cls d H) fa)) (ho : PE X o (tD X.K (fun cls d _ H => E cls d H) fo)) (hm : behindInMarks .In o = false := by rfl) :
    PE X (.Compare a [.In] [o] pos) (tD X.K (fun cls d _ H => E cls d H) (inOMX C F fa fo)) := pe_weak (pe_cmpR (op_inOX hs hf G hr hb tk) ha ho hm) inOX_read
end
section
variable {C : Addr} {F : Fn} {fa f : M D} {l : List (Option Slot)} {g : Cells} {ρ : Rho} {u : Unit}
def inEX (C : Addr) (F : Fn) (e d : D) (_ : Unit) (ρ : Rho) : Rs D := inFX F d e ρ
def endIX (l : List (Option Slot)) : Rf → Rs D
  | .ok (.bl b) g => .ok (.bl b) ⟨l, g⟩
  | .ex e g => .ex e ⟨l, g⟩
  | _ => .no
theorem endIX_ok {b : Bool} : endIX l (.ok (.bl b) g) = .ok (.bl b) ⟨l, g⟩ := Eq.trans (Eq.refl _) (Eq.refl _)
theorem endIX_ex {e : Xn} : endIX l (.ex e g) = .ex e ⟨l, g⟩ := Eq.trans (Eq.refl _) (Eq.refl _)
theorem inEX_r {e d : D} : inEX C F e d u ⟨l, g⟩ = endIX l (F [d, e] g) := by
  unfold inEX inFX endIX
  cases F [d, e] g with
  | ok d g => cases d <;> rfl
  | _ => rfl
def inD1X (C : Addr) (F : Fn) (e d : D) (ρ : Rho) : Rs D := (lkB (isObD C) d ρ).bnd (inEX C F e d)
theorem inD1X_r {e d : D} : inD1X C F e d ρ = (lkB (isObD C) d ρ).bnd (inEX C F e d) := Eq.trans (Eq.refl _) (Eq.refl _)
def inAX (C : Addr) (F : Fn) (fo : M D) (e : D) (ρ : Rho) : Rs D := (fo ρ).bnd (inD1X C F e)
theorem inAX_r {e : D} : inAX C F f e ρ = (f ρ).bnd (inD1X C F e) := Eq.trans (Eq.refl _) (Eq.refl _)
theorem inOX_r : inOMX C F fa f ρ = (fa ρ).bnd (inAX C F f) := by
  unfold inOMX
  rw [bind_r]
  congr 1
  funext e ρ1
  rw [bind_r]
  unfold inAX
  congr 1
  funext d ρ2
  rw [getO_bnd]
  rfl
end
def EV39 := And.intro @endIX_ok (And.intro @endIX_ex (And.intro @inEX_r (And.intro @inD1X_r (And.intro @inAX_r @inOX_r))))
end Nc
namespace Nc
open PySem PySem.Spec PyProof.Rows L2
noncomputable section
def h_Rule_markings_v2 (T : Nat → Addr) : M Out := (dropS (methM (T 0) "check_text" (F_Rule_check_text T) (var 0) (consM (var 1) (M.ret []))))
def F_Rule_markings_v2 (T : Nat → Addr) : Fn := runB 9 3 (h_Rule_markings_v2 T)
def h_law_K07 (T : Nat → Addr) : M Out := (thenS
  (setS 2 (callM F_law_plan (consM (var 1) (consM (M.ret (dN 5)) (consM (M.ret (dN 4)) (M.ret []))))))
  (thenS
  (setS 3 (callM (F_law_made T) (consM (var 2) (M.ret []))))
  (thenS
  (forS (rngI (M.ret (dN 4))) (bndN 4) (thenS
  (parS 5 6 (consM (callM F_law_text (consM (var 1) (consM (k2 ixD (varK 2) (opdM (M.ret (dN 0)))) (consM (M.ret (dN 8)) (M.ret []))))) (consM (callM F_law_text (consM (var 1) (consM (k2 ixD (varK 2) (opdM (M.ret (dN 0)))) (consM (M.ret (dN 3)) (M.ret []))))) (M.ret []))))
  (thenS
  (setS 7 (callM F_law_rel (consM (var 2) (consM (var 5) (M.ret [])))))
  (thenS
  (ifM (orM (notM (tst (callM F_law_like (consM (methM (T 0) "relation" (F_Rule_relation T) (var 3) (consM (var 5) (M.ret []))) (consM (var 7) (M.ret [])))))) (tst (k2 neD (opdM (meKwM (T 0) "relation" (F_Rule_relation T) 0 1 [0] (var 3) (M.ret []) (consM (var 5) (M.ret [])))) (varK 7)))) (retS (M.ret (.bl false))) (M.ret .nx))
  (thenS
  (ifM (tst (k2 neD (opdM (methM (T 0) "relation" (F_Rule_relation T) (var 3) (consM (b2 addD (var 5) (var 6)) (M.ret [])))) (opdM (callM F_law_chain (consM (var 7) (consM (callM F_law_rel (consM (var 2) (consM (var 6) (M.ret [])))) (M.ret []))))))) (retS (M.ret (.bl false))) (M.ret .nx))
  (thenS
  (setS 8 (callM F_law_pull (consM (var 1) (consM (b2 addD (k1 lenD (varK 5)) (M.ret (dN 1))) (M.ret [])))))
  (thenS
  (setS 9 (b2 addD (b2 addD (b2 addD (slM (varK 5) (M.ret none) (partM (var 8))) (callM F_law_pick (consM (var 1) (consM (frzM (lstM (consM (M.ret (.str "A")) (consM (M.ret (.str " ")) (consM (M.ret (.str "0")) (consM (M.ret (.str "q")) (consM (M.ret (.str ".")) (M.ret [])))))))) (M.ret []))))) (slM (varK 5) (partM (var 8)) (M.ret none))) (callM F_law_pick (consM (var 1) (consM (frzM (lstM (consM (M.ret (.str "")) (consM (M.ret (.str "B")) (M.ret []))))) (M.ret []))))))
  (thenS
  (setS 7 (tupM (consM (M.ret (.str "no")) (consM (M.ret (.str "InvalidText")) (consM (var 8) (M.ret []))))))
  (thenS
  (setS 10 (cellM (lstM (consM (tellM 1 (T 99) lamQ (csN T [21, 22, 23, 24, 25, 39, 40, 45, 46]) F_law_field (methM (T 0) "relation" (F_Rule_relation T) (var 3) (consM (var 9) (M.ret [])))) (consM (tellM 1 (T 99) lamQ (csN T [21, 22, 23, 24, 25, 39, 40, 45, 46]) F_law_field (methM (T 0) "run" (F_Rule_run T) (var 3) (consM (var 9) (consM (frzM (lstM (consM (M.ret (dN 0)) (M.ret [])))) (consM (frzM (lstM (consM (M.ret (dN 0)) (M.ret [])))) (M.ret [])))))) (M.ret []))))))
  (thenS
  (dropS (lm1 appOp (refS 10) (tellM 1 (T 99) lamQ (csN T [21, 22, 23, 24, 25, 39, 40, 45, 46]) F_law_field (methM (T 0) "least_marking" (F_Rule_least_marking T) (var 3) (consM (var 9) (M.ret []))))))
  (thenS
  (dropS (lm1 appOp (refS 10) (tellM 1 (T 99) lamQ (csN T [21, 22, 23, 24, 25, 39, 40, 45, 46]) F_law_field (callOM (T 0) (F_Rule___call__ T) (var 3) (consM (var 9) (M.ret []))))))
  (thenS
  (dropS (lm1 appOp (refS 10) (tellM 1 (T 99) lamQ (csN T [21, 22, 23, 24, 25, 39, 40, 45, 46]) F_law_field (methM (T 0) "how_many" (F_Rule_how_many T) (var 3) (consM (var 9) (M.ret []))))))
  (thenS
  (dropS (lm1 appOp (refS 10) (tellM 1 (T 99) lamQ (csN T [21, 22, 23, 24, 25, 39, 40, 45, 46]) F_law_field (methM (T 0) "is_marking" (F_Rule_is_marking T) (var 3) (consM (var 9) (consM (tupM (consM (M.ret (dN 0)) (M.ret []))) (M.ret [])))))))
  (thenS
  (dropS (lm1 appOp (refS 10) (tellM 1 (T 99) lamQ (csN T [21, 22, 23, 24, 25, 39, 40, 45, 46]) F_law_field (inOMX (T 0) (F_Rule___contains__ T) (var 9) (var 3)))))
  (thenS
  (dropS (lm1 appOp (refS 10) (tellM 1 (T 99) lamQ (csN T [21, 22, 23, 24, 25, 39, 40, 45, 46]) F_law_field (lgXM (T 0) "markings" (T 25) (F_Rule_markings_v2 T) (var 3) (apM (consM (var 9) (M.ret [])) [dN 100])))))
  (ifM (tst (k2 neD (varK 10) (opdM (frzM (b2N repO (frzM (lstM (consM (var 7) (M.ret [])))) (M.ret (dN 8))))))) (retS (M.ret (.bl false))) (M.ret .nx)))))))))))))))))
  (retS (k2 eqD (opdM (methM (T 0) "relation" (F_Rule_relation T) (var 3) (consM (M.ret (.str "")) (M.ret [])))) (opdM (callM F_law_same_rel (consM (k2 ixD (varK 2) (opdM (M.ret (dN 1)))) (M.ret [])))))))))
end
end Nc
namespace Nc
open PySem PySem.Spec PyProof.Rows L2
theorem identity_run {n : Nat} {g : Cells} (hn : n < 1000) : F_identity [dN n] g = .ok (dRel ((List.range n).map (2 ^ ·))) g := by
  apply run_sat rfl rfl
  simp only [EV1, EV2, EV3, EV4, EV5, EV6, EV7, EV8, EV9, EV10, EV11, EV12, EV13, EV14, EV15, EV16, EV17, EV18, EV19, EV20, EV21, EV22, EV23, vals, List.replicate, Nat.reduceBEq, Nat.reduceAdd, Nat.reduceLT, Nat.reduceSub, Nat.reduceMul, Nat.reduceLeDiff, Nat.reduceEqDiff, OP1, OP2, h_identity, rng1_n (show n < 1000000 by omega)]
  refine' Sat.step (lcL_mapS (r := fun k => dN (2 ^ k)) (fun k hk => ?_) (by simp; omega)) ?_
  · have hk := List.mem_range.mp hk
    simp only [EV1, EV2, EV3, EV4, EV5, EV6, EV7, EV8, EV9, EV10, EV11, EV12, EV13, EV14, EV15, EV16, EV17, EV18, EV19, EV20, EV21, EV22, EV23, vals, List.replicate, Nat.reduceBEq, Nat.reduceAdd, Nat.reduceLT, Nat.reduceSub, Nat.reduceMul, Nat.reduceLeDiff, Nat.reduceEqDiff, OP1, OP2, shl_nn (show k < 1000000 by omega) (show 1 < 10 ^ 18 by decide), Nat.one_mul]
    try exact rfl
  · simp only [EV1, EV2, EV3, EV4, EV5, EV6, EV7, EV8, EV9, EV10, EV11, EV12, EV13, EV14, EV15, EV16, EV17, EV18, EV19, EV20, EV21, EV22, EV23, vals, List.replicate, Nat.reduceBEq, Nat.reduceAdd, Nat.reduceLT, Nat.reduceSub, Nat.reduceMul, Nat.reduceLeDiff, Nat.reduceEqDiff, OP1, OP2, dRel, List.map_map]
    exact ⟨rfl, rfl⟩
theorem bit_is (row k : Nat) : decide (row >>> k &&& 1 = 1) = row.testBit k := by
  rw [Nat.and_one_is_mod, Nat.testBit_eq_decide_div_mod_eq, Nat.shiftRight_eq_div_pow]
theorem bits_run {row n : Nat} {g : Cells} (hn : n < 1000) : F_bits_of [dN row, dN n] g = .ok (.lst (((List.range n).filter (row.testBit ·)).map dN)) g := by
  apply run_sat rfl rfl
  simp only [EV1, EV2, EV3, EV4, EV5, EV6, EV7, EV8, EV9, EV10, EV11, EV12, EV13, EV14, EV15, EV16, EV17, EV18, EV19, EV20, EV21, EV22, EV23, vals, List.replicate, Nat.reduceBEq, Nat.reduceAdd, Nat.reduceLT, Nat.reduceSub, Nat.reduceMul, Nat.reduceLeDiff, Nat.reduceEqDiff, OP1, OP2, h_bits_of, rng1_n (show n < 1000000 by omega)]
  refine' Sat.step (lcL_mapF (p := (row.testBit ·)) (r := dN) (fun k hk => ?_) (by simp; omega)) ?_
  · simp only [EV1, EV2, EV3, EV4, EV5, EV6, EV7, EV8, EV9, EV10, EV11, EV12, EV13, EV14, EV15, EV16, EV17, EV18, EV19, EV20, EV21, EV22, EV23, vals, List.replicate, Nat.reduceBEq, Nat.reduceAdd, Nat.reduceLT, Nat.reduceSub, Nat.reduceMul, Nat.reduceLeDiff, Nat.reduceEqDiff, OP1, OP2, bit_is]
    cases row.testBit k <;> simp only [EV1, EV2, EV3, EV4, EV5, EV6, EV7, EV8, EV9, EV10, EV11, EV12, EV13, EV14, EV15, EV16, EV17, EV18, EV19, EV20, EV21, EV22, EV23, vals, List.replicate, Nat.reduceBEq, Nat.reduceAdd, Nat.reduceLT, Nat.reduceSub, Nat.reduceMul, Nat.reduceLeDiff, Nat.reduceEqDiff, OP1, OP2] <;> exact rfl
  · simp only [EV1, EV2, EV3, EV4, EV5, EV6, EV7, EV8, EV9, EV10, EV11, EV12, EV13, EV14, EV15, EV16, EV17, EV18, EV19, EV20, EV21, EV22, EV23, vals, List.replicate, Nat.reduceBEq, Nat.reduceAdd, Nat.reduceLT, Nat.reduceSub, Nat.reduceMul, Nat.reduceLeDiff, Nat.reduceEqDiff, OP1, OP2]
    exact ⟨rfl, rfl⟩
def rowAt (rows : List Nat) (i : Nat) : Nat := (rows[i]?).getD 0
def imgN (rel : List Nat) (row : Nat) : Nat := ((List.range rel.length).filter (row.testBit ·)).foldl (fun a s => a ||| rowAt rel s) 0
def chainN (one other : List Nat) : List Nat := one.map (imgN other)
theorem rel_ix {rows : List Nat} {i : Nat} (h : i < rows.length) : (rows.map dN)[i]? = some (dN (rowAt rows i)) := by
  rw [List.getElem?_map, List.getElem?_eq_getElem h]
  simp only [rowAt, List.getElem?_eq_getElem h, Option.map_some, Option.getD_some]
theorem image_run {row : Nat} {rel : List Nat} {g : Cells} (hn : rel.length < 1000) : F_image [dN row, dRel rel] g = .ok (dN (imgN rel row)) g := by
  apply run_sat rfl rfl
  simp only [EV1, EV2, EV3, EV4, EV5, EV6, EV7, EV8, EV9, EV10, EV11, EV12, EV13, EV14, EV15, EV16, EV17, EV18, EV19, EV20, EV21, EV22, EV23, vals, List.replicate, Nat.reduceBEq, Nat.reduceAdd, Nat.reduceLT, Nat.reduceSub, Nat.reduceMul, Nat.reduceLeDiff, Nat.reduceEqDiff, OP1, OP2, h_image, List.length_map, bits_run hn]
  refine' Sat.stepE (loop_sat (fun (a : Nat) (j : Option Slot) => ⟨[vN row, vD (dRel rel), vN a, j], g⟩) (fun a s => a ||| rowAt rel s) (fun _ => True) _ 0 none trivial (fun a j s hs _ => ⟨?_, trivial⟩)) (fun j => ?_)
  · have hs := List.mem_range.mp (List.mem_filter.mp hs).1
    simp only [EV1, EV2, EV3, EV4, EV5, EV6, EV7, EV8, EV9, EV10, EV11, EV12, EV13, EV14, EV15, EV16, EV17, EV18, EV19, EV20, EV21, EV22, EV23, vals, List.replicate, Nat.reduceBEq, Nat.reduceAdd, Nat.reduceLT, Nat.reduceSub, Nat.reduceMul, Nat.reduceLeDiff, Nat.reduceEqDiff, OP1, OP2, rel_ix hs]
    exact ⟨rfl, _, rfl⟩
  · simp only [EV1, EV2, EV3, EV4, EV5, EV6, EV7, EV8, EV9, EV10, EV11, EV12, EV13, EV14, EV15, EV16, EV17, EV18, EV19, EV20, EV21, EV22, EV23, vals, List.replicate, Nat.reduceBEq, Nat.reduceAdd, Nat.reduceLT, Nat.reduceSub, Nat.reduceMul, Nat.reduceLeDiff, Nat.reduceEqDiff, OP1, OP2]
    exact ⟨rfl, rfl⟩
theorem joined_run {one other : List Nat} {g : Cells} (h1 : one.length < 1000) (hn : other.length < 1000) : F_joined [dRel one, dRel other] g = .ok (dRel (chainN one other)) g := by
  apply run_sat rfl rfl
  simp only [EV1, EV2, EV3, EV4, EV5, EV6, EV7, EV8, EV9, EV10, EV11, EV12, EV13, EV14, EV15, EV16, EV17, EV18, EV19, EV20, EV21, EV22, EV23, vals, List.replicate, Nat.reduceBEq, Nat.reduceAdd, Nat.reduceLT, Nat.reduceSub, Nat.reduceMul, Nat.reduceLeDiff, Nat.reduceEqDiff, OP1, OP2, h_joined]
  refine' Sat.step (lcL_mapS (r := fun row => dN (imgN other row)) (fun row hk => ?_) (by omega)) ?_
  · simp only [EV1, EV2, EV3, EV4, EV5, EV6, EV7, EV8, EV9, EV10, EV11, EV12, EV13, EV14, EV15, EV16, EV17, EV18, EV19, EV20, EV21, EV22, EV23, vals, List.replicate, Nat.reduceBEq, Nat.reduceAdd, Nat.reduceLT, Nat.reduceSub, Nat.reduceMul, Nat.reduceLeDiff, Nat.reduceEqDiff, OP1, OP2, image_run hn]
    try exact rfl
  · simp only [EV1, EV2, EV3, EV4, EV5, EV6, EV7, EV8, EV9, EV10, EV11, EV12, EV13, EV14, EV15, EV16, EV17, EV18, EV19, EV20, EV21, EV22, EV23, vals, List.replicate, Nat.reduceBEq, Nat.reduceAdd, Nat.reduceLT, Nat.reduceSub, Nat.reduceMul, Nat.reduceLeDiff, Nat.reduceEqDiff, OP1, OP2, dRel, chainN, List.map_map]
    exact ⟨rfl, rfl⟩
theorem chain_len {a b : List Nat} : (chainN a b).length = a.length := List.length_map ..
theorem zipPairs_map {β γ : Type} {f : β → D} {k : γ → D} {xs : List β} {ys : List γ} : zipPairs (xs.map f) (ys.map k) = (xs.zip ys).map fun q => .tup [f q.1, k q.2] := by
  unfold zipPairs
  rw [List.zip_map, List.map_map]
  rfl
theorem limage_run {row : Nat} {rel : List Nat} {g : Cells} (hn : rel.length < 1000) : F_law_image [dN row, dRel rel] g = .ok (dN (imgN rel row)) g := by
  apply run_sat rfl rfl
  simp only [EV1, EV2, EV3, EV4, EV5, EV6, EV7, EV8, EV9, EV10, EV11, EV12, EV13, EV14, EV15, EV16, EV17, EV18, EV19, EV20, EV21, EV22, EV23, vals, List.replicate, Nat.reduceBEq, Nat.reduceAdd, Nat.reduceLT, Nat.reduceSub, Nat.reduceMul, Nat.reduceLeDiff, Nat.reduceEqDiff, OP1, OP2, h_law_image, List.length_map, rng1_n (show rel.length < 1000000 by omega)]
  refine' Sat.stepE (loop_sat (fun (a : Nat) (j : Option Slot) => ⟨[vN row, vD (dRel rel), vN a, j], g⟩) (fun a s => if row.testBit s then a ||| rowAt rel s else a) (fun _ => True) _ 0 none trivial (fun a j s hs _ => ⟨?_, trivial⟩)) (fun j => ?_)
  · have hs := List.mem_range.mp hs
    simp only [EV1, EV2, EV3, EV4, EV5, EV6, EV7, EV8, EV9, EV10, EV11, EV12, EV13, EV14, EV15, EV16, EV17, EV18, EV19, EV20, EV21, EV22, EV23, vals, List.replicate, Nat.reduceBEq, Nat.reduceAdd, Nat.reduceLT, Nat.reduceSub, Nat.reduceMul, Nat.reduceLeDiff, Nat.reduceEqDiff, OP1, OP2, bit_is]
    cases row.testBit s
    · simp only [EV1, EV2, EV3, EV4, EV5, EV6, EV7, EV8, EV9, EV10, EV11, EV12, EV13, EV14, EV15, EV16, EV17, EV18, EV19, EV20, EV21, EV22, EV23, vals, List.replicate, Nat.reduceBEq, Nat.reduceAdd, Nat.reduceLT, Nat.reduceSub, Nat.reduceMul, Nat.reduceLeDiff, Nat.reduceEqDiff, OP1, OP2]
      exact ⟨rfl, _, rfl⟩
    · simp only [EV1, EV2, EV3, EV4, EV5, EV6, EV7, EV8, EV9, EV10, EV11, EV12, EV13, EV14, EV15, EV16, EV17, EV18, EV19, EV20, EV21, EV22, EV23, vals, List.replicate, Nat.reduceBEq, Nat.reduceAdd, Nat.reduceLT, Nat.reduceSub, Nat.reduceMul, Nat.reduceLeDiff, Nat.reduceEqDiff, OP1, OP2, rel_ix hs]
      exact ⟨rfl, _, rfl⟩
  · simp only [EV1, EV2, EV3, EV4, EV5, EV6, EV7, EV8, EV9, EV10, EV11, EV12, EV13, EV14, EV15, EV16, EV17, EV18, EV19, EV20, EV21, EV22, EV23, vals, List.replicate, Nat.reduceBEq, Nat.reduceAdd, Nat.reduceLT, Nat.reduceSub, Nat.reduceMul, Nat.reduceLeDiff, Nat.reduceEqDiff, OP1, OP2]
    refine ⟨congrArg (fun x => Out.rt (dN x)) ?_, rfl⟩
    unfold imgN
    rw [List.foldl_filter]
theorem lchain_run {one other : List Nat} {g : Cells} (h1 : one.length < 1000) (hn : other.length < 1000) : F_law_chain [dRel one, dRel other] g = .ok (dRel (chainN one other)) g := by
  apply run_sat rfl rfl
  simp only [EV1, EV2, EV3, EV4, EV5, EV6, EV7, EV8, EV9, EV10, EV11, EV12, EV13, EV14, EV15, EV16, EV17, EV18, EV19, EV20, EV21, EV22, EV23, vals, List.replicate, Nat.reduceBEq, Nat.reduceAdd, Nat.reduceLT, Nat.reduceSub, Nat.reduceMul, Nat.reduceLeDiff, Nat.reduceEqDiff, OP1, OP2, h_law_chain]
  refine' Sat.step (lcL_mapS (r := fun row => dN (imgN other row)) (fun row hk => ?_) (by omega)) ?_
  · simp only [EV1, EV2, EV3, EV4, EV5, EV6, EV7, EV8, EV9, EV10, EV11, EV12, EV13, EV14, EV15, EV16, EV17, EV18, EV19, EV20, EV21, EV22, EV23, vals, List.replicate, Nat.reduceBEq, Nat.reduceAdd, Nat.reduceLT, Nat.reduceSub, Nat.reduceMul, Nat.reduceLeDiff, Nat.reduceEqDiff, OP1, OP2, limage_run hn]
    try exact rfl
  · simp only [EV1, EV2, EV3, EV4, EV5, EV6, EV7, EV8, EV9, EV10, EV11, EV12, EV13, EV14, EV15, EV16, EV17, EV18, EV19, EV20, EV21, EV22, EV23, vals, List.replicate, Nat.reduceBEq, Nat.reduceAdd, Nat.reduceLT, Nat.reduceSub, Nat.reduceMul, Nat.reduceLeDiff, Nat.reduceEqDiff, OP1, OP2, dRel, chainN, List.map_map]
    exact ⟨rfl, rfl⟩
theorem pick_run {b : Box} {ds : List D} {g : Cells} {P : D} (hP : P = .lst ds ∨ P = .tup ds) (h0 : 0 < ds.length) (h1 : ds.length < 1000000) : F_law_pick [.ptr 0, P] (b.o :: g) = .ok ((ds[b.draw ds.length]?).getD .non) ((b.nx ds.length).o :: g) := by
  have hd := draw_lt (b := b) h0
  have e : ds[b.draw ds.length]? = some ((ds[b.draw ds.length]?).getD .non) := by
    rw [List.getElem?_eq_getElem hd]
    rfl
  rcases hP with rfl | rfl
  · apply run_sat rfl rfl
    simp only [EV1, EV2, EV3, EV4, EV5, EV6, EV7, EV8, EV9, EV10, EV11, EV12, EV13, EV14, EV15, EV16, EV17, EV18, EV19, EV20, EV21, EV22, EV23, vals, List.replicate, Nat.reduceBEq, Nat.reduceAdd, Nat.reduceLT, Nat.reduceSub, Nat.reduceMul, Nat.reduceLeDiff, Nat.reduceEqDiff, OP1, OP2, h_law_pick, draw_run (g := g) (b := b) h0 (by omega)]
    rw [e]
    simp only [EV1, EV2, EV3, EV4, EV5, EV6, EV7, EV8, EV9, EV10, EV11, EV12, EV13, EV14, EV15, EV16, EV17, EV18, EV19, EV20, EV21, EV22, EV23, vals, List.replicate, Nat.reduceBEq, Nat.reduceAdd, Nat.reduceLT, Nat.reduceSub, Nat.reduceMul, Nat.reduceLeDiff, Nat.reduceEqDiff, OP1, OP2]
    exact ⟨rfl, rfl⟩
  · apply run_sat rfl rfl
    simp only [EV1, EV2, EV3, EV4, EV5, EV6, EV7, EV8, EV9, EV10, EV11, EV12, EV13, EV14, EV15, EV16, EV17, EV18, EV19, EV20, EV21, EV22, EV23, vals, List.replicate, Nat.reduceBEq, Nat.reduceAdd, Nat.reduceLT, Nat.reduceSub, Nat.reduceMul, Nat.reduceLeDiff, Nat.reduceEqDiff, OP1, OP2, h_law_pick, draw_run (g := g) (b := b) h0 (by omega)]
    rw [e]
    simp only [EV1, EV2, EV3, EV4, EV5, EV6, EV7, EV8, EV9, EV10, EV11, EV12, EV13, EV14, EV15, EV16, EV17, EV18, EV19, EV20, EV21, EV22, EV23, vals, List.replicate, Nat.reduceBEq, Nat.reduceAdd, Nat.reduceLT, Nat.reduceSub, Nat.reduceMul, Nat.reduceLeDiff, Nat.reduceEqDiff, OP1, OP2]
    exact ⟨rfl, rfl⟩
end Nc
namespace Nc
open PySem PySem.Spec PyProof.Rows L2
/-- sum of powers over rising exponents, bit by bit -/
def sumP (ks : List Nat) : Nat := (ks.map (2 ^ ·)).sum
theorem sumP_dvd {m : Nat} : ∀ {ks : List Nat}, (∀ k ∈ ks, m ≤ k) → 2 ^ m ∣ sumP ks
  | [], _ => ⟨0, rfl⟩
  | k :: ks, h => by
    unfold sumP
    rw [List.map_cons, List.sum_cons]
    exact Nat.dvd_add (Nat.pow_dvd_pow 2 (h k List.mem_cons_self)) (sumP_dvd (ks := ks) fun j hj => h j (List.mem_cons_of_mem _ hj))
theorem sumP_or {k : Nat} {ks : List Nat} (h : ∀ j ∈ ks, k < j) : sumP (k :: ks) = sumP ks ||| 2 ^ k := by
  obtain ⟨q, hq⟩ := sumP_dvd (m := k + 1) (ks := ks) h
  have e : sumP (k :: ks) = 2 ^ k + sumP ks := by
    unfold sumP
    rw [List.map_cons, List.sum_cons]
  rw [e, hq, ← Nat.two_pow_add_eq_or_of_lt (Nat.pow_lt_pow_right (by decide) (Nat.lt_succ_self k)), Nat.add_comm]
theorem sumP_bit : ∀ {ks : List Nat}, ks.Pairwise (· < ·) → ∀ i, (sumP ks).testBit i = decide (i ∈ ks)
  | [], _, i => by simp [sumP]
  | k :: ks, h, i => by
    rw [List.pairwise_cons] at h
    rw [sumP_or h.1, Nat.testBit_or, sumP_bit h.2, Nat.testBit_two_pow]
    by_cases e : k = i
    · subst e
      simp
    · have : i ≠ k := fun z => e z.symm
      simp [e, this]
/-- the or of powers -/
def orP (ks : List Nat) (a : Nat) : Nat := ks.foldl (fun acc k => acc ||| 2 ^ k) a
theorem orP_bit : ∀ (ks : List Nat) (a i : Nat), (orP ks a).testBit i = (a.testBit i || decide (i ∈ ks))
  | [], a, i => by simp [orP]
  | k :: ks, a, i => by
    show (orP ks (a ||| 2 ^ k)).testBit i = _
    rw [orP_bit ks, Nat.testBit_or, Nat.testBit_two_pow]
    by_cases e : k = i
    · subst e
      simp
    · have : i ≠ k := fun z => e z.symm
      simp [e, this]
abbrev toI (n : Nat) : Int := (n : Int)
def sN (ns : List Nat) : List Nat := (sortU (ns.map toI)).map Int.toNat
theorem sN_cast (ns : List Nat) : (sN ns).map toI = sortU (ns.map toI) := by
  unfold sN
  rw [List.map_map]
  have : ∀ x ∈ sortU (ns.map toI), (toI ∘ Int.toNat) x = x := fun x hx => by
    obtain ⟨n, _, e⟩ := List.mem_map.mp (mem_sortU.mp hx)
    subst e
    rfl
  rw [List.map_congr_left this, List.map_id']
theorem sN_mem {ns : List Nat} {k : Nat} : k ∈ sN ns ↔ k ∈ ns := by
  unfold sN
  rw [List.mem_map]
  constructor
  · rintro ⟨x, hx, e⟩
    obtain ⟨n, hn, e2⟩ := List.mem_map.mp (mem_sortU.mp hx)
    subst e2
    rw [← e]
    exact hn
  · intro hk
    exact ⟨toI k, mem_sortU.mpr (List.mem_map_of_mem hk), rfl⟩
theorem sN_sorted (ns : List Nat) : (sN ns).Pairwise (· < ·) := by
  have h := sortU_sorted (ns.map toI)
  rw [← sN_cast, List.pairwise_map] at h
  exact h.imp fun {a b} q => by
    have q : (a : Int) < (b : Int) := q
    omega
def rowL (ps : List (Nat × Nat)) (i : Nat) : List Nat := (ps.filter fun p => decide (p.1 = i)).map (·.2)
def rowS (ps : List (Nat × Nat)) (i : Nat) : Nat := sumP (sN (rowL ps i))
def relS (n : Nat) (ps : List (Nat × Nat)) : List Nat := (List.range n).map (rowS ps)
theorem rowS_bit (ps : List (Nat × Nat)) (i j : Nat) : (rowS ps i).testBit j = decide ((i, j) ∈ ps) := by
  unfold rowS
  rw [sumP_bit (sN_sorted _), decide_eq_decide, sN_mem]
  unfold rowL
  rw [List.mem_map]
  constructor
  · rintro ⟨p, hp, e⟩
    obtain ⟨h1, h2⟩ := List.mem_filter.mp hp
    have h2 := of_decide_eq_true h2
    subst e h2
    exact h1
  · intro h
    exact ⟨(i, j), List.mem_filter.mpr ⟨h, decide_eq_true rfl⟩, rfl⟩
theorem rowAt_rel {n : Nat} {g : Nat → Nat} {i : Nat} (h : i < n) : rowAt ((List.range n).map g) i = g i := by
  unfold rowAt
  rw [List.getElem?_map, List.getElem?_range h]
  rfl
theorem sN_len (ns : List Nat) : (sN ns).length ≤ ns.length := by
  unfold sN
  rw [List.length_map]
  exact Nat.le_trans (sortU_len _) (by rw [List.length_map]; exact Nat.le_refl _)
theorem sumD_pows (ks : List Nat) : sumD (.lst (ks.map fun k => dN (2 ^ k))) = some (dN (sumP ks)) := by
  have := sum_nats (ks.map (2 ^ ·))
  rw [List.map_map] at this
  exact this
theorem rel_run {n : Nat} {ps : List (Nat × Nat)} {P : D} {g : Cells} (hn : n < 1000) (hP : P = .lst (ps.map dPair) ∨ P = .tup (ps.map dPair)) (hl : ps.length < 100000) (hf : ∀ i, (rowL ps i).length < 63) (hb : ∀ p ∈ ps, p.2 < 1000) : F_relation_of [dN n, P] g = .ok (dRel (relS n ps)) g := by
  have hi : itemsD P = some (ps.map dPair) := by rcases hP with rfl | rfl <;> rfl
  have hb2 : ∀ i, ∀ k ∈ sN (rowL ps i), k < 1000 := fun i k hk => by
    rw [sN_mem] at hk
    unfold rowL at hk
    obtain ⟨p, hp, e⟩ := List.mem_map.mp hk
    have := hb p (List.mem_filter.mp hp).1
    omega
  have hs2 : ∀ i, (sN (rowL ps i)).length < 63 := fun i => by
    have := sN_len (rowL ps i)
    have := hf i
    omega
  apply run_sat rfl rfl
  simp only [EV1, EV2, EV3, EV4, EV5, EV6, EV7, EV8, EV9, EV10, EV11, EV12, EV13, EV14, EV15, EV16, EV17, EV18, EV19, EV20, EV21, EV22, EV23, vals, List.replicate, Nat.reduceBEq, Nat.reduceAdd, Nat.reduceLT, Nat.reduceSub, Nat.reduceMul, Nat.reduceLeDiff, Nat.reduceEqDiff, OP1, OP2, h_relation_of, rng1_n (show n < 1000000 by omega)]
  refine' Sat.stepI (loop_satJ (fun i ρ => i ≤ n ∧ ∃ j3 j4, ρ = ⟨[vN n, some (.val P), some (.own (.lst ((List.range i).map fun r => dN (rowS ps r)))), j3, j4, none, none], g⟩) ⟨Nat.zero_le _, none, none, rfl⟩ (fun i d ρ hd ⟨_, j3, j4, hρ⟩ => ?_)) (fun o ρ h => ?_)
  · subst hρ
    rw [List.getElem?_map] at hd
    obtain ⟨x, hx, e⟩ := Option.map_eq_some_iff.mp hd
    have hin : i < n := by
      have := (List.getElem?_eq_some_iff.mp hx).1
      simpa using this
    rw [List.getElem?_range hin] at hx
    cases hx
    subst e
    simp only [EV1, EV2, EV3, EV4, EV5, EV6, EV7, EV8, EV9, EV10, EV11, EV12, EV13, EV14, EV15, EV16, EV17, EV18, EV19, EV20, EV21, EV22, EV23, vals, List.replicate, Nat.reduceBEq, Nat.reduceAdd, Nat.reduceLT, Nat.reduceSub, Nat.reduceMul, Nat.reduceLeDiff, Nat.reduceEqDiff, OP1, OP2, hi]
    refine' Sat.step (ssL_map (p := fun p => decide (p.1 = i)) (r := fun p => (p.2 : Int)) (fun p hp => ?_) hl ?_) ?_
    · simp only [EV1, EV2, EV3, EV4, EV5, EV6, EV7, EV8, EV9, EV10, EV11, EV12, EV13, EV14, EV15, EV16, EV17, EV18, EV19, EV20, EV21, EV22, EV23, vals, List.replicate, Nat.reduceBEq, Nat.reduceAdd, Nat.reduceLT, Nat.reduceSub, Nat.reduceMul, Nat.reduceLeDiff, Nat.reduceEqDiff, OP1, OP2]
      by_cases h : p.1 = i
      · simp only [EV1, EV2, EV3, EV4, EV5, EV6, EV7, EV8, EV9, EV10, EV11, EV12, EV13, EV14, EV15, EV16, EV17, EV18, EV19, EV20, EV21, EV22, EV23, vals, List.replicate, Nat.reduceBEq, Nat.reduceAdd, Nat.reduceLT, Nat.reduceSub, Nat.reduceMul, Nat.reduceLeDiff, Nat.reduceEqDiff, OP1, OP2, decide_eq_true h]
        try exact rfl
      · simp only [EV1, EV2, EV3, EV4, EV5, EV6, EV7, EV8, EV9, EV10, EV11, EV12, EV13, EV14, EV15, EV16, EV17, EV18, EV19, EV20, EV21, EV22, EV23, vals, List.replicate, Nat.reduceBEq, Nat.reduceAdd, Nat.reduceLT, Nat.reduceSub, Nat.reduceMul, Nat.reduceLeDiff, Nat.reduceEqDiff, OP1, OP2, decide_eq_false h]
        try exact rfl
    · have := hf i
      unfold rowL at this
      rwa [List.length_map] at this ⊢
    · have e3 : (sortU ((ps.filter fun p => decide (p.1 = i)).map fun p => (p.2 : Int))).map D.int = (sN (rowL ps i)).map dN := by
        have := congrArg (List.map D.int) (sN_cast (rowL ps i))
        unfold rowL at this ⊢
        rw [List.map_map, List.map_map] at this
        exact this.symm
      simp only [EV1, EV2, EV3, EV4, EV5, EV6, EV7, EV8, EV9, EV10, EV11, EV12, EV13, EV14, EV15, EV16, EV17, EV18, EV19, EV20, EV21, EV22, EV23, vals, List.replicate, Nat.reduceBEq, Nat.reduceAdd, Nat.reduceLT, Nat.reduceSub, Nat.reduceMul, Nat.reduceLeDiff, Nat.reduceEqDiff, OP1, OP2, e3]
      refine' Sat.step (lcL_mapS (r := fun k => dN (2 ^ k)) (fun k hk => ?_) (by have := hs2 i; omega)) ?_
      · simp only [EV1, EV2, EV3, EV4, EV5, EV6, EV7, EV8, EV9, EV10, EV11, EV12, EV13, EV14, EV15, EV16, EV17, EV18, EV19, EV20, EV21, EV22, EV23, vals, List.replicate, Nat.reduceBEq, Nat.reduceAdd, Nat.reduceLT, Nat.reduceSub, Nat.reduceMul, Nat.reduceLeDiff, Nat.reduceEqDiff, OP1, OP2, shl_nn (show k < 1000000 by have := hb2 i k hk; omega) (show 1 < 10 ^ 18 by decide), Nat.one_mul]
        try exact rfl
      · have e4 : ((List.range i).map fun r => dN (rowS ps r)) ++ [dN (sumP (sN (rowL ps i)))] = (List.range (i + 1)).map fun r => dN (rowS ps r) := by
          rw [List.range_succ, List.map_append]
          rfl
        simp only [EV1, EV2, EV3, EV4, EV5, EV6, EV7, EV8, EV9, EV10, EV11, EV12, EV13, EV14, EV15, EV16, EV17, EV18, EV19, EV20, EV21, EV22, EV23, vals, List.replicate, Nat.reduceBEq, Nat.reduceAdd, Nat.reduceLT, Nat.reduceSub, Nat.reduceMul, Nat.reduceLeDiff, Nat.reduceEqDiff, OP1, OP2, sumD_pows, app_r (show ((List.range i).map fun r => dN (rowS ps r)).length < 100000 by simp; omega), e4]
        exact ⟨rfl, hin, _, _, rfl⟩
  · obtain ⟨rfl, _, j3, j4, rfl⟩ := h
    rw [List.length_map, List.length_range]
    simp only [EV1, EV2, EV3, EV4, EV5, EV6, EV7, EV8, EV9, EV10, EV11, EV12, EV13, EV14, EV15, EV16, EV17, EV18, EV19, EV20, EV21, EV22, EV23, vals, List.replicate, Nat.reduceBEq, Nat.reduceAdd, Nat.reduceLT, Nat.reduceSub, Nat.reduceMul, Nat.reduceLeDiff, Nat.reduceEqDiff, OP1, OP2]
    refine ⟨?_, rfl⟩
    unfold relS
    rw [dRel, List.map_map]
    rfl
theorem rowL_le (ps : List (Nat × Nat)) (i : Nat) : (rowL ps i).length ≤ ps.length := by
  unfold rowL
  rw [List.length_map]
  exact List.length_filter_le _ _
def rowO (ps : List (Nat × Nat)) (i : Nat) : Nat := orP (rowL ps i) 0
def relO (n : Nat) (ps : List (Nat × Nat)) : List Nat := (List.range n).map (rowO ps)
theorem rowO_bit (ps : List (Nat × Nat)) (i j : Nat) : (rowO ps i).testBit j = decide ((i, j) ∈ ps) := by
  unfold rowO
  rw [orP_bit, Nat.zero_testBit, Bool.false_or, decide_eq_decide]
  unfold rowL
  rw [List.mem_map]
  constructor
  · rintro ⟨p, hp, e⟩
    obtain ⟨h1, h2⟩ := List.mem_filter.mp hp
    have h2 := of_decide_eq_true h2
    subst e h2
    exact h1
  · intro h
    exact ⟨(i, j), List.mem_filter.mpr ⟨h, decide_eq_true rfl⟩, rfl⟩
theorem rel_OS {n : Nat} {ps qs : List (Nat × Nat)} (h : ∀ i j, i < n → ((i, j) ∈ ps ↔ (i, j) ∈ qs)) : relO n ps = relS n qs := by
  unfold relO relS
  refine List.map_congr_left fun i hi => Nat.eq_of_testBit_eq fun j => ?_
  rw [rowO_bit, rowS_bit, decide_eq_decide]
  exact h i j (List.mem_range.mp hi)
theorem rowO_snoc (ps : List (Nat × Nat)) (p : Nat × Nat) (i : Nat) : rowO (ps ++ [p]) i = if p.1 = i then rowO ps i ||| 2 ^ p.2 else rowO ps i := by
  unfold rowO rowL
  rw [List.filter_append, List.map_append]
  unfold orP
  rw [List.foldl_append]
  by_cases h : p.1 = i <;> simp [h]
theorem set_range {n k : Nat} {g g' : Nat → D} (h : ∀ r, r ≠ k → g' r = g r) : ((List.range n).map g).set k (g' k) = (List.range n).map g' := by
  apply List.ext_getElem?
  intro i
  by_cases hi : i = k
  · subst hi
    by_cases hn : i < n
    · rw [List.getElem?_set_self (by simpa using hn), List.getElem?_map, List.getElem?_range hn]
      rfl
    · rw [List.getElem?_eq_none (by simp; omega), List.getElem?_eq_none (by simp; omega)]
  · rw [List.getElem?_set_ne (Ne.symm hi), List.getElem?_map, List.getElem?_map]
    by_cases hn : i < n
    · rw [List.getElem?_range hn]
      show some (g i) = some (g' i)
      rw [h i hi]
    · rw [List.getElem?_eq_none (by simp; omega)]
      rfl
end Nc
namespace Nc
open PySem PySem.Spec PyProof.Rows L2
/-- plain data up to a depth; k: with bools -/
def Lkk (k : Bool) : Nat → D → Prop
  | 0, _ => False
  | n + 1, d => (∃ i, d = .int i) ∨ (∃ z, d = .str z ∧ PyData.strOk z = true) ∨ d = .non ∨ (k = true ∧ ∃ b, d = .bl b) ∨ ∃ ds, (d = .lst ds ∨ d = .tup ds) ∧ ds.length < 100000 ∧ ∀ e ∈ ds, Lkk k n e
abbrev Lk := Lkk true
abbrev Lp := Lkk false
section
variable {k : Bool} {n : Nat}
theorem lk_int {i : Int} : Lkk k (n + 1) (.int i) := .inl ⟨i, rfl⟩
theorem lk_str {z : Str} (h : PyData.strOk z = true) : Lkk k (n + 1) (.str z) := .inr (.inl ⟨z, rfl, h⟩)
theorem lk_lst {ds : List D} (hl : ds.length < 100000) (h : ∀ e ∈ ds, Lkk k n e) : Lkk k (n + 1) (.lst ds) := .inr (.inr (.inr (.inr ⟨ds, .inl rfl, hl, h⟩)))
theorem lk_tup {ds : List D} (hl : ds.length < 100000) (h : ∀ e ∈ ds, Lkk k n e) : Lkk k (n + 1) (.tup ds) := .inr (.inr (.inr (.inr ⟨ds, .inr rfl, hl, h⟩)))
theorem lk_all_nil : ∀ e ∈ ([] : List D), Lkk k n e := fun e h => by cases h
theorem lk_all_cons {d : D} {ds : List D} (h : Lkk k n d) (t : ∀ e ∈ ds, Lkk k n e) : ∀ e ∈ d :: ds, Lkk k n e := fun e he => by
  rcases List.mem_cons.mp he with rfl | he
  · exact h
  · exact t e he
theorem lk_all_map {β : Type} {f : β → D} {xs : List β} (h : ∀ x ∈ xs, Lkk k n (f x)) : ∀ e ∈ xs.map f, Lkk k n e := fun e he => by
  obtain ⟨x, hx, rfl⟩ := List.mem_map.mp he
  exact h x hx
theorem lk_rel {rows : List Nat} (h : rows.length < 100000) : Lkk k (n + 2) (dRel rows) := lk_tup (by simpa using h) (lk_all_map fun _ _ => lk_int)
end
theorem eqv_all {ps : List PyData} (h : ∀ p ∈ ps, PyData.eqv p p = true) : PyData.eqvAll ps ps = true := by
  induction ps with
  | nil => simp [PyData.eqvAll]
  | cons p ps ih =>
    simp only [PyData.eqvAll, h p List.mem_cons_self, ih fun q hq => h q (List.mem_cons_of_mem _ hq), Bool.and_self]
theorem py_lk {k : Bool} : ∀ {n : Nat} {d : D}, Lkk k n d → ∃ x, d.py = some x ∧ x.canLay0 = true ∧ x.depth ≤ n ∧ PyData.eqv x x = true
  | 0, d, h => h.elim
  | n + 1, d, h => by
    rcases h with ⟨i, rfl⟩ | ⟨z, rfl, hz⟩ | rfl | ⟨_, b, rfl⟩ | ⟨ds, hd, hl, he⟩
    · exact ⟨.int i, by simp only [D.py], by simp [PyData.canLay0], by simp [PyData.depth], by simp [PyData.eqv]⟩
    · exact ⟨.str z, by simp only [D.py], by simp [PyData.canLay0, hz], by simp [PyData.depth], by simp [PyData.eqv]⟩
    · exact ⟨.none, by simp only [D.py], by simp [PyData.canLay0], by simp [PyData.depth], by simp [PyData.eqv]⟩
    · exact ⟨.bool b, by simp only [D.py], by simp [PyData.canLay0], by simp [PyData.depth], by simp [PyData.eqv]⟩
    · have key : ∀ ds : List D, (∀ e ∈ ds, Lkk k n e) → ∃ xs, D.pys ds = some xs ∧ PyData.canLayAll0 xs = true ∧ PyData.depthAll xs ≤ n ∧ ∀ x ∈ xs, PyData.eqv x x = true := by
        intro ds
        induction ds with
        | nil => exact fun _ => ⟨[], by simp only [D.pys], by simp [PyData.canLayAll0], by simp [PyData.depthAll], fun x h => by cases h⟩
        | cons d ds ih =>
          intro he
          obtain ⟨x, h1, h2, h3, h4⟩ := py_lk (he d List.mem_cons_self)
          obtain ⟨xs, g1, g2, g3, g4⟩ := ih fun e h => he e (List.mem_cons_of_mem _ h)
          refine ⟨x :: xs, by simp only [D.pys, h1, g1], by simp [PyData.canLayAll0, h2, g2], by simp [PyData.depthAll]; omega, fun y hy => ?_⟩
          rcases List.mem_cons.mp hy with rfl | hy
          · exact h4
          · exact g4 y hy
      obtain ⟨xs, g1, g2, g3, g4⟩ := key ds he
      rcases hd with rfl | rfl
      · exact ⟨.list xs, by simp only [D.py, g1, Option.map_some], by simp [PyData.canLay0, g2], by simp [PyData.depth]; omega, by simp only [PyData.eqv]; exact eqv_all g4⟩
      · exact ⟨.tuple xs, by simp only [D.py, g1, Option.map_some], by simp [PyData.canLay0, g2], by simp [PyData.depth]; omega, by simp only [PyData.eqv]; exact eqv_all g4⟩
theorem shaped_of {n : Nat} {x : PyData} (h2 : x.canLay0 = true) (h3 : x.depth ≤ n) (hn : n ≤ 60) : SeqAt.shaped x = true := by
  unfold SeqAt.shaped
  rw [Bool.and_eq_true, decide_eq_true_eq]
  exact ⟨h2, by omega⟩
theorem eqB_refl {k : Bool} {n : Nat} {d : D} (h : Lkk k n d) (hn : n ≤ 60) : eqB d d = some true := by
  obtain ⟨x, h1, h2, h3, h4⟩ := py_lk h
  have hs := shaped_of h2 h3 hn
  have h0 : eqS d d = none ∨ eqS d d = some true := by
    cases d <;> simp [eqS]
  unfold eqB
  rcases h0 with h0 | h0
  · simp only [h0, h1, hs, h4, Bool.and_self, if_true]
  · simp only [h0]
theorem eqD_refl {k : Bool} {n : Nat} {d : D} (h : Lkk k n d) (hn : n ≤ 60) : eqD d d = some (.bl true) := by
  unfold eqD
  rw [eqB_refl h hn]
  rfl
theorem neD_refl {k : Bool} {n : Nat} {d : D} (h : Lkk k n d) (hn : n ≤ 60) : neD d d = some (.bl false) := by
  unfold neD
  rw [eqB_refl h hn]
  rfl
theorem eqv_eq : ∀ {n : Nat} {d e : D} {m : Nat} {x y : PyData}, Lp n d → Lp m e → d.py = some x → e.py = some y → PyData.eqv x y = true → d = e
  | 0, _, _, _, _, _, h, _, _, _, _ => h.elim
  | n + 1, d, e, 0, _, _, _, h, _, _, _ => h.elim
  | n + 1, d, e, m + 1, x, y, h, h', e1, e2, q => by
    have key : ∀ (ds es : List D) (xs ys : List PyData), (∀ z ∈ ds, Lp n z) → (∀ z ∈ es, Lp m z) → D.pys ds = some xs → D.pys es = some ys → PyData.eqvAll xs ys = true → ds = es := by
      intro ds
      induction ds with
      | nil =>
        intro es xs ys _ h2 f1 f2 q
        simp only [D.pys] at f1
        cases f1
        cases es with
        | nil => rfl
        | cons z es =>
          simp only [D.pys] at f2
          split at f2
          · cases f2
            simp [PyData.eqvAll] at q
          · cases f2
      | cons d ds ih =>
        intro es xs ys h1 h2 f1 f2 q
        simp only [D.pys] at f1
        split at f1
        · rename_i a as a1 a2
          cases f1
          cases es with
          | nil =>
            simp only [D.pys] at f2
            cases f2
            simp [PyData.eqvAll] at q
          | cons z es =>
            simp only [D.pys] at f2
            split at f2
            · rename_i b bs b1 b2
              cases f2
              simp only [PyData.eqvAll, Bool.and_eq_true] at q
              rw [eqv_eq (h1 d List.mem_cons_self) (h2 z List.mem_cons_self) a1 b1 q.1, ih es as bs (fun w hw => h1 w (List.mem_cons_of_mem _ hw)) (fun w hw => h2 w (List.mem_cons_of_mem _ hw)) a2 b2 q.2]
            · cases f2
        · cases f1
    rcases h with ⟨i, rfl⟩ | ⟨z, rfl, hz⟩ | rfl | ⟨hb, _⟩ | ⟨ds, hd, hl, he⟩
    · simp only [D.py] at e1
      cases e1
      rcases h' with ⟨j, rfl⟩ | ⟨z', rfl, hz'⟩ | rfl | ⟨hb, _⟩ | ⟨es, rfl | rfl, _, _⟩
      · simp only [D.py] at e2
        cases e2
        simp [PyData.eqv] at q
        rw [q]
      · simp only [D.py] at e2
        cases e2
        simp [PyData.eqv] at q
      · simp only [D.py] at e2
        cases e2
        simp [PyData.eqv] at q
      · cases hb
      · simp only [D.py] at e2
        obtain ⟨_, _, e2⟩ := Option.map_eq_some_iff.mp e2
        subst e2
        simp [PyData.eqv] at q
      · simp only [D.py] at e2
        obtain ⟨_, _, e2⟩ := Option.map_eq_some_iff.mp e2
        subst e2
        simp [PyData.eqv] at q
    · simp only [D.py] at e1
      cases e1
      rcases h' with ⟨j, rfl⟩ | ⟨z', rfl, hz'⟩ | rfl | ⟨hb, _⟩ | ⟨es, rfl | rfl, _, _⟩
      · simp only [D.py] at e2
        cases e2
        simp [PyData.eqv] at q
      · simp only [D.py] at e2
        cases e2
        simp [PyData.eqv] at q
        rw [q]
      · simp only [D.py] at e2
        cases e2
        simp [PyData.eqv] at q
      · cases hb
      · simp only [D.py] at e2
        obtain ⟨_, _, e2⟩ := Option.map_eq_some_iff.mp e2
        subst e2
        simp [PyData.eqv] at q
      · simp only [D.py] at e2
        obtain ⟨_, _, e2⟩ := Option.map_eq_some_iff.mp e2
        subst e2
        simp [PyData.eqv] at q
    · simp only [D.py] at e1
      cases e1
      rcases h' with ⟨j, rfl⟩ | ⟨z', rfl, hz'⟩ | rfl | ⟨hb, _⟩ | ⟨es, rfl | rfl, _, _⟩
      · simp only [D.py] at e2
        cases e2
        simp [PyData.eqv] at q
      · simp only [D.py] at e2
        cases e2
        simp [PyData.eqv] at q
      · rfl
      · cases hb
      · simp only [D.py] at e2
        obtain ⟨_, _, e2⟩ := Option.map_eq_some_iff.mp e2
        subst e2
        simp [PyData.eqv] at q
      · simp only [D.py] at e2
        obtain ⟨_, _, e2⟩ := Option.map_eq_some_iff.mp e2
        subst e2
        simp [PyData.eqv] at q
    · cases hb
    · rcases hd with rfl | rfl
      · simp only [D.py] at e1
        obtain ⟨xs, a1, a2⟩ := Option.map_eq_some_iff.mp e1
        subst a2
        rcases h' with ⟨j, rfl⟩ | ⟨z', rfl, hz'⟩ | rfl | ⟨hb, _⟩ | ⟨es, rfl | rfl, _, he'⟩
        · simp only [D.py] at e2
          cases e2
          simp [PyData.eqv] at q
        · simp only [D.py] at e2
          cases e2
          simp [PyData.eqv] at q
        · simp only [D.py] at e2
          cases e2
          simp [PyData.eqv] at q
        · cases hb
        · simp only [D.py] at e2
          obtain ⟨ys, b1, b2⟩ := Option.map_eq_some_iff.mp e2
          subst b2
          simp only [PyData.eqv] at q
          rw [key ds es xs ys he he' a1 b1 q]
        · simp only [D.py] at e2
          obtain ⟨_, _, e2⟩ := Option.map_eq_some_iff.mp e2
          subst e2
          simp [PyData.eqv] at q
      · simp only [D.py] at e1
        obtain ⟨xs, a1, a2⟩ := Option.map_eq_some_iff.mp e1
        subst a2
        rcases h' with ⟨j, rfl⟩ | ⟨z', rfl, hz'⟩ | rfl | ⟨hb, _⟩ | ⟨es, rfl | rfl, _, he'⟩
        · simp only [D.py] at e2
          cases e2
          simp [PyData.eqv] at q
        · simp only [D.py] at e2
          cases e2
          simp [PyData.eqv] at q
        · simp only [D.py] at e2
          cases e2
          simp [PyData.eqv] at q
        · cases hb
        · simp only [D.py] at e2
          obtain ⟨_, _, e2⟩ := Option.map_eq_some_iff.mp e2
          subst e2
          simp [PyData.eqv] at q
        · simp only [D.py] at e2
          obtain ⟨ys, b1, b2⟩ := Option.map_eq_some_iff.mp e2
          subst b2
          simp only [PyData.eqv] at q
          rw [key ds es xs ys he he' a1 b1 q]
theorem eqB_ne {n m : Nat} {d e : D} (h : Lp n d) (h' : Lp m e) (hn : n ≤ 60) (hm : m ≤ 60) (q : d ≠ e) : eqB d e = some false := by
  obtain ⟨x, h1, h2, h3, h4⟩ := py_lk h
  obtain ⟨y, g1, g2, g3, g4⟩ := py_lk h'
  have hs := shaped_of h2 h3 hn
  have gs := shaped_of g2 g3 hm
  have hv : PyData.eqv x y = false := by
    cases z : PyData.eqv x y with
    | false => rfl
    | true => exact absurd (eqv_eq h h' h1 g1 z) q
  have h0 : eqS d e = none ∨ eqS d e = some false := by
    cases d <;> cases e <;> simp_all [eqS]
  unfold eqB
  rcases h0 with h0 | h0
  · simp only [h0, h1, g1, hs, gs, hv, Bool.and_self, if_true]
  · simp only [h0]
theorem neD_ne {n m : Nat} {d e : D} (h : Lp n d) (h' : Lp m e) (hn : n ≤ 60) (hm : m ≤ 60) (q : d ≠ e) : neD d e = some (.bl true) := by
  unfold neD
  rw [eqB_ne h h' hn hm q]
  rfl
theorem kb_il : kitB "int" "list" = some false := by decide +kernel
theorem kb_it : kitB "int" "tuple" = some false := by decide +kernel
theorem kb_ib : kitB "int" "bool" = some false := by decide +kernel
theorem kb_sl : kitB "str" "list" = some false := by decide +kernel
theorem kb_st : kitB "str" "tuple" = some false := by decide +kernel
theorem kb_sb : kitB "str" "bool" = some false := by decide +kernel
theorem kb_nl : kitB "NoneType" "list" = some false := by decide +kernel
theorem kb_nt : kitB "NoneType" "tuple" = some false := by decide +kernel
theorem kb_nb : kitB "NoneType" "bool" = some false := by decide +kernel
theorem kb_bl : kitB "bool" "list" = some false := by decide +kernel
theorem kb_bt : kitB "bool" "tuple" = some false := by decide +kernel
theorem kb_bb : kitB "bool" "bool" = some true := by decide +kernel
theorem kb_ll : kitB "list" "list" = some true := by decide +kernel
theorem kb_lt : kitB "list" "tuple" = some false := by decide +kernel
theorem kb_tl : kitB "tuple" "list" = some false := by decide +kernel
theorem kb_tt : kitB "tuple" "tuple" = some true := by decide +kernel
theorem neD_bl (a b : Bool) : neD (.bl a) (.bl b) = some (.bl (!decide (a = b))) := rfl
theorem bls_true {β : Type} (xs : List β) : allD (.lst (xs.map fun _ => D.bl true)) = some (.bl true) := by
  have key : ∀ xs : List β, D.bls (xs.map fun _ => D.bl true) = some (xs.map fun _ => true) := by
    intro xs
    induction xs with
    | nil => rfl
    | cons x xs ih =>
      rw [List.map_cons, List.map_cons]
      simp only [D.bls, ih, Option.map_some]
  simp only [allD, key, Option.map_some]
  congr 2
  simp
theorem isi2_some {T U t : String} {d : D} {a b : Bool} (h : tyD d = some t) (h1 : kitB t T = some a) (h2 : kitB t U = some b) : isiD2 T U d = some (.bl (a || b)) := by
  simp only [isiD2, h, Option.bind_some, h1, h2, Option.map_some]
theorem isi_some {T t : String} {d : D} {a : Bool} (h : tyD d = some t) (h1 : kitB t T = some a) : isiD T d = some (.bl a) := by
  simp only [isiD, h, Option.bind_some, h1, Option.map_some]
theorem lookG_lk {k : Bool} : ∀ {n : Nat} {d : D} {g : Cells}, Lkk k n d → lookG g d = some d
  | 0, _, _, h => h.elim
  | n + 1, d, g, h => by
    rcases h with ⟨i, rfl⟩ | ⟨z, rfl, hz⟩ | rfl | ⟨_, b, rfl⟩ | ⟨ds, rfl | rfl, hl, he⟩ <;> rfl
theorem like_run {g : Cells} : ∀ {n : Nat} {d : D}, Lk n d → n ≤ 60 → Fn_law_like n [d, d] g = .ok (.bl true) g
  | 0, d, h, _ => h.elim
  | n + 1, d, h, hn => by
    have hD := lookG_lk (g := g) h
    have hq := eqD_refl h (by omega)
    have fin : ∀ (t : String) (b : Bool), tyD d = some t → kitB t "list" = some false → kitB t "tuple" = some false → kitB t "bool" = some b → Fn_law_like (n + 1) [d, d] g = .ok (.bl true) g := by
      intro t b f1 f2 f3 f4
      have e1 := isi2_some f1 f2 f3
      have e2 := isi_some f1 f4
      show runB 3 2 (h_law_like (Fn_law_like n)) _ _ = _
      apply run_sat rfl rfl
      simp only [EV1, EV2, EV3, EV4, EV5, EV6, EV7, EV8, EV9, EV10, EV11, EV12, EV13, EV14, EV15, EV16, EV17, EV18, EV19, EV20, EV21, EV22, EV23, vals, List.replicate, Nat.reduceBEq, Nat.reduceAdd, Nat.reduceLT, Nat.reduceSub, Nat.reduceMul, Nat.reduceLeDiff, Nat.reduceEqDiff, OP1, OP2, h_law_like, hD, e1, e2, Bool.or_self, neD_bl, hq, decide_true, decide_eq_true (rfl : b = b)]
      exact ⟨rfl, rfl⟩
    rcases h with ⟨i, rfl⟩ | ⟨z, rfl, hz⟩ | rfl | ⟨_, b, rfl⟩ | ⟨ds, hd, hl, he⟩
    · exact fin _ _ rfl kb_il kb_it kb_ib
    · exact fin _ _ rfl kb_sl kb_st kb_sb
    · exact fin _ _ rfl kb_nl kb_nt kb_nb
    · exact fin _ _ rfl kb_bl kb_bt kb_bb
    · have main : ∀ (t : String) (b1 b2 : Bool), tyD d = some t → kitB t "list" = some b1 → kitB t "tuple" = some b2 → (b1 || b2) = true → lenD d = some (dN ds.length) → (∀ i, ixD d (dN i) = ds[i]?) → Fn_law_like (n + 1) [d, d] g = .ok (.bl true) g := by
        intro t b1 b2 f1 f2 f3 f4 f5 f6
        have e1 := isi2_some f1 f2 f3
        rw [f4] at e1
        have e2 := isi_some f1 f2
        have e3 := isi_some f1 f3
        show runB 3 2 (h_law_like (Fn_law_like n)) _ _ = _
        apply run_sat rfl rfl
        simp only [EV1, EV2, EV3, EV4, EV5, EV6, EV7, EV8, EV9, EV10, EV11, EV12, EV13, EV14, EV15, EV16, EV17, EV18, EV19, EV20, EV21, EV22, EV23, vals, List.replicate, Nat.reduceBEq, Nat.reduceAdd, Nat.reduceLT, Nat.reduceSub, Nat.reduceMul, Nat.reduceLeDiff, Nat.reduceEqDiff, OP1, OP2, h_law_like, hD, e1, e2, e3, neD_bl, decide_eq_true (rfl : b1 = b1), decide_eq_true (rfl : b2 = b2), f5, decide_eq_true (rfl : ds.length = ds.length), rng1_n (show ds.length < 1000000 by omega)]
        refine' Sat.step (lcL_mapS (r := fun _ => .bl true) (fun i hi => ?_) (by simpa using hl)) ?_
        · have hi := List.mem_range.mp hi
          have hy := List.getElem_mem hi
          have hL := like_run (g := g) (he _ hy) (by omega)
          simp only [EV1, EV2, EV3, EV4, EV5, EV6, EV7, EV8, EV9, EV10, EV11, EV12, EV13, EV14, EV15, EV16, EV17, EV18, EV19, EV20, EV21, EV22, EV23, vals, List.replicate, Nat.reduceBEq, Nat.reduceAdd, Nat.reduceLT, Nat.reduceSub, Nat.reduceMul, Nat.reduceLeDiff, Nat.reduceEqDiff, OP1, OP2, hD, f6, List.getElem?_eq_getElem hi, hL]
          try exact rfl
        · simp only [EV1, EV2, EV3, EV4, EV5, EV6, EV7, EV8, EV9, EV10, EV11, EV12, EV13, EV14, EV15, EV16, EV17, EV18, EV19, EV20, EV21, EV22, EV23, vals, List.replicate, Nat.reduceBEq, Nat.reduceAdd, Nat.reduceLT, Nat.reduceSub, Nat.reduceMul, Nat.reduceLeDiff, Nat.reduceEqDiff, OP1, OP2, bls_true]
          exact ⟨rfl, rfl⟩
      rcases hd with rfl | rfl
      · exact main _ _ _ rfl kb_ll kb_lt rfl rfl fun i => ixl_n
      · exact main _ _ _ rfl kb_tl kb_tt rfl rfl fun i => ixt_n
end Nc
namespace Nc
open PySem PySem.Spec PyProof.Rows L2
structure IsRel (n : Nat) (r : List Nat) : Prop where
  len : r.length = n
  lt : ∀ x ∈ r, x < 2 ^ n
def rb (r : List Nat) (i j : Nat) : Bool := (rowAt r i).testBit j
theorem rowAt_lt {n : Nat} {r : List Nat} (h : IsRel n r) (i : Nat) : rowAt r i < 2 ^ n := by
  unfold rowAt
  cases e : r[i]? with
  | none => exact Nat.two_pow_pos n
  | some x => exact h.lt x (List.mem_of_getElem? e)
theorem rb_lt {n : Nat} {r : List Nat} (h : IsRel n r) {i j : Nat} (hb : rb r i j = true) : i < n ∧ j < n := by
  constructor
  · refine Classical.byContradiction fun c => ?_
    unfold rb rowAt at hb
    rw [List.getElem?_eq_none (by rw [h.len]; omega)] at hb
    simp at hb
  · refine Classical.byContradiction fun c => ?_
    have := Nat.testBit_lt_two_pow (Nat.lt_of_lt_of_le (rowAt_lt h i) (Nat.pow_le_pow_right (by decide) (Nat.le_of_not_lt c)))
    unfold rb at hb
    rw [this] at hb
    cases hb
theorem rel_ext {n : Nat} {a b : List Nat} (ha : a.length = n) (hb : b.length = n) (h : ∀ i j, i < n → rb a i j = rb b i j) : a = b := by
  apply List.ext_getElem?
  intro i
  by_cases hi : i < n
  · have e : rowAt a i = rowAt b i := Nat.eq_of_testBit_eq fun j => h i j hi
    unfold rowAt at e
    rw [List.getElem?_eq_getElem (by omega), List.getElem?_eq_getElem (by omega)] at e ⊢
    simpa using e
  · rw [List.getElem?_eq_none (by omega), List.getElem?_eq_none (by omega)]
theorem orAll_bit (rel : List Nat) (j : Nat) : ∀ (ss : List Nat) (a : Nat), (ss.foldl (fun a s => a ||| rowAt rel s) a).testBit j = (a.testBit j || ss.any fun s => (rowAt rel s).testBit j)
  | [], a => by simp
  | s :: ss, a => by
    rw [List.foldl_cons, orAll_bit rel j ss, Nat.testBit_or, List.any_cons, Bool.or_assoc]
theorem imgN_bit (rel : List Nat) (row j : Nat) : (imgN rel row).testBit j = true ↔ ∃ s, s < rel.length ∧ row.testBit s = true ∧ rb rel s j = true := by
  unfold imgN
  rw [orAll_bit, Nat.zero_testBit, Bool.false_or, List.any_eq_true]
  constructor
  · rintro ⟨s, hs, h⟩
    obtain ⟨h1, h2⟩ := List.mem_filter.mp hs
    exact ⟨s, List.mem_range.mp h1, h2, h⟩
  · rintro ⟨s, h1, h2, h3⟩
    exact ⟨s, List.mem_filter.mpr ⟨List.mem_range.mpr h1, h2⟩, h3⟩
theorem chain_at {a b : List Nat} {i : Nat} (h : i < a.length) : rowAt (chainN a b) i = imgN b (rowAt a i) := by
  unfold chainN rowAt
  rw [List.getElem?_map, List.getElem?_eq_getElem h]
  rfl
theorem chain_bit {a b : List Nat} {i j : Nat} (h : i < a.length) : rb (chainN a b) i j = true ↔ ∃ s, s < b.length ∧ rb a i s = true ∧ rb b s j = true := by
  unfold rb
  rw [chain_at h, imgN_bit]
  rfl
theorem chain_rel {n : Nat} {a b : List Nat} (ha : IsRel n a) (hb : IsRel n b) : IsRel n (chainN a b) := by
  refine ⟨by rw [chain_len, ha.len], fun x hx => ?_⟩
  obtain ⟨row, _, rfl⟩ := List.mem_map.mp hx
  refine Nat.lt_pow_two_of_testBit _ fun j hj => ?_
  cases e : (imgN b row).testBit j with
  | false => rfl
  | true =>
    obtain ⟨s, _, _, h3⟩ := (imgN_bit b row j).mp e
    have := (rb_lt hb h3).2
    omega
theorem beq_iff {a b : Bool} (h : a = true ↔ b = true) : a = b := by cases a <;> cases b <;> simp_all
theorem chain_assoc {n : Nat} {a b c : List Nat} (ha : a.length = n) (hb : b.length = n) (hc : c.length = n) : chainN (chainN a b) c = chainN a (chainN b c) := by
  refine rel_ext (n := n) (by rw [chain_len, chain_len, ha]) (by rw [chain_len, ha]) fun i j hi => beq_iff ?_
  rw [chain_bit (by rw [chain_len]; omega), chain_bit (by omega)]
  constructor
  · rintro ⟨s, h1, h2, h3⟩
    obtain ⟨t, h4, h5, h6⟩ := (chain_bit (by omega)).mp h2
    exact ⟨t, by rw [chain_len]; exact h4, h5, (chain_bit h4).mpr ⟨s, h1, h6, h3⟩⟩
  · rintro ⟨t, h1, h2, h3⟩
    rw [chain_len] at h1
    obtain ⟨s, h4, h5, h6⟩ := (chain_bit h1).mp h3
    exact ⟨s, h4, (chain_bit (by omega)).mpr ⟨t, h1, h2, h5⟩, h6⟩
def idN (n : Nat) : List Nat := (List.range n).map (2 ^ ·)
theorem id_len {n : Nat} : (idN n).length = n := by simp [idN]
theorem id_bit {n i j : Nat} (hi : i < n) : rb (idN n) i j = decide (i = j) := by
  unfold rb idN
  rw [rowAt_rel hi, Nat.testBit_two_pow]
theorem id_rel {n : Nat} : IsRel n (idN n) := ⟨id_len, fun x hx => by
  obtain ⟨k, hk, rfl⟩ := List.mem_map.mp hx
  exact Nat.pow_lt_pow_right (by decide) (List.mem_range.mp hk)⟩
theorem chain_id {n : Nat} {a : List Nat} (ha : IsRel n a) : chainN a (idN n) = a := by
  refine rel_ext (n := n) (by rw [chain_len, ha.len]) ha.len fun i j hi => beq_iff ?_
  rw [chain_bit (by rw [ha.len]; exact hi)]
  constructor
  · rintro ⟨s, h1, h2, h3⟩
    rw [id_len] at h1
    rw [id_bit h1, decide_eq_true_eq] at h3
    subst h3
    exact h2
  · intro h
    have := (rb_lt ha h).2
    exact ⟨j, by rw [id_len]; exact this, h, by rw [id_bit this, decide_eq_true_eq]⟩
theorem relS_len (n : Nat) (ps : List (Nat × Nat)) : (relS n ps).length = n := by
  unfold relS
  rw [List.length_map, List.length_range]
theorem ne_nilN {xs : List Nat} (h : xs.length < 100000) : neD (.lst (xs.map dN)) (.lst []) = some (.bl (!xs.isEmpty)) := by
  have h1 : Lp 3 (.lst (xs.map dN)) := lk_lst (by simpa using h) (lk_all_map fun _ _ => lk_int)
  cases xs with
  | nil => exact neD_refl h1 (by decide)
  | cons x xs => exact neD_ne h1 (lk_lst (n := 2) (by decide) lk_all_nil) (by decide) (by decide) (fun z => by simp at z)
theorem ne_rel {a : List Nat} (h : a.length < 100000) : neD (dRel a) (dRel a) = some (.bl false) := neD_refl (k := false) (n := 2) (lk_rel h) (by decide)
end Nc
namespace Nc
open PySem PySem.Spec PyProof.Rows L2
section
variable {n : Nat} {r : List Nat}
theorem lsame_run {n : Nat} {g : Cells} (hn : n < 1000) : F_law_same_rel [dN n] g = .ok (dRel (idN n)) g := identity_run hn
end
theorem nodup_map {α β : Type} {f : α → β} : ∀ {l : List α}, (∀ a ∈ l, ∀ b ∈ l, f a = f b → a = b) → l.Nodup → (l.map f).Nodup
  | [], _, _ => List.nodup_nil
  | a :: l, h, hn => by
    rw [List.nodup_cons] at hn
    rw [List.map_cons, List.nodup_cons]
    refine ⟨fun hm => ?_, nodup_map (fun x hx y hy => h x (List.mem_cons_of_mem _ hx) y (List.mem_cons_of_mem _ hy)) hn.2⟩
    obtain ⟨b, hb, e⟩ := List.mem_map.mp hm
    have := h b (List.mem_cons_of_mem _ hb) a List.mem_cons_self e
    exact hn.1 (this ▸ hb)
end Nc
namespace Nc
open PySem PySem.Spec PyProof.Rows L2
end Nc
namespace Nc
open PySem PySem.Spec PyProof.Rows L2
abbrev strN (cs : List Nat) : Str := ⟨cs.toArray⟩
abbrev dS (cs : List Nat) : D := .str (strN cs)
abbrev dC (c : Nat) : D := .str ⟨#[c]⟩
section
variable {cs ds : List Nat} {a b c : Nat}
theorem str_len : (strN cs).length = cs.length := by simp [strN, Str.length]
theorem signs_s : signsL (strN cs) = cs.map dC := by simp [signsL, strN]
theorem items_s : itemsD (dS cs) = some (cs.map dC) := by
  show some (signsL (strN cs)) = _
  rw [signs_s]
theorem len_s (h : cs.length < 100000) : lenD (dS cs) = some (dN cs.length) := by
  show (if (strN cs).length ≤ sizeLine then some (D.int ((strN cs).length : Nat)) else none) = _
  rw [str_len, if_pos (le_size h)]
theorem strN_inj : strN cs = strN ds ↔ cs = ds := by
  constructor
  · intro h
    have := congrArg (fun z : Str => z.cps.toList) h
    simpa using this
  · intro h
    rw [h]
theorem lt_cc : ltD (dC a) (dC b) = some (dB (decide (a < b))) := by
  have : decide (([a] : List Nat) < [b]) = decide (a < b) := by
    simp [List.cons_lt_cons_iff]
  show some (D.bl (decide (([a] : List Nat) < [b]))) = _
  rw [this]
theorem eq_ss : eqD (dS cs) (dS ds) = some (dB (decide (cs = ds))) := by
  simp only [eqD, eqB, eqS, Option.map_some, strN_inj]
theorem eq_cc : eqD (dC a) (dC b) = some (dB (decide (a = b))) := by
  have h := eq_ss (cs := [a]) (ds := [b])
  simpa using h
theorem in_cs : inD (dC c) (dS cs) = some (.bl (decide (c ∈ cs))) := by
  have h := PySem.StrLaws.found_one (strN cs) c
  show some (D.bl (!(Builtin.Str.occurrences (strN cs) ⟨#[c]⟩ 0 (strN cs).length 1).isEmpty)) = _
  rw [h]
theorem zip_ss : zipSD (dS cs) (dS ds) = some (zipPairs (cs.map dC) (ds.map dC)) := by
  show some (zipPairs (signsL (strN cs)) (signsL (strN ds))) = _
  rw [signs_s, signs_s]
theorem cutS_n {lo hi : Option Int} : cutS (strN cs) lo hi = strN ((cs.drop (HT.sIx cs.length 0 lo)).take (HT.sIx cs.length cs.length hi - HT.sIx cs.length 0 lo)) := by
  unfold cutS
  rw [str_len]
theorem slS_from {k : Nat} (h : cs.length < 100000) : slD (some (k : Int)) none (dS cs) = some (dS (cs.drop k)) := by
  show (if (strN cs).length ≤ sizeLine then some (D.str (cutS (strN cs) _ _)) else none) = _
  rw [str_len, if_pos (le_size h), cutS_n, HT.sIx_nat]
  show some (dS ((cs.drop (min k cs.length)).take (cs.length - min k cs.length))) = _
  congr 3
  rcases Nat.le_total k cs.length with q | q
  · rw [Nat.min_eq_left q, List.take_of_length_le (by rw [List.length_drop]; exact Nat.le_refl _)]
  · rw [Nat.min_eq_right q, List.drop_eq_nil_of_le q, List.drop_eq_nil_of_le (Nat.le_refl _), List.take_nil]
theorem slS_to {k : Nat} (h : cs.length < 100000) : slD none (some (k : Int)) (dS cs) = some (dS (cs.take k)) := by
  have e : (cs.drop 0).take (min k cs.length - 0) = cs.take k := by
    rw [List.drop_zero, Nat.sub_zero]
    rcases Nat.le_total k cs.length with q | q
    · rw [Nat.min_eq_left q]
    · rw [Nat.min_eq_right q, List.take_of_length_le q, List.take_of_length_le (Nat.le_refl _)]
  show (if (strN cs).length ≤ sizeLine then some (D.str (cutS (strN cs) _ _)) else none) = _
  rw [str_len, if_pos (le_size h), cutS_n, HT.sIx_nat]
  show some (dS ((cs.drop 0).take (min k cs.length - 0))) = _
  rw [e]
theorem add_ss (h : cs.length + ds.length < 100000) : addD (dS cs) (dS ds) = some (dS (cs ++ ds)) := by
  show (if (strN cs).length + (strN ds).length ≤ sizeLine then some (D.str (strN cs ++ strN ds)) else none) = _
  rw [str_len, str_len, if_pos (le_size h)]
  congr 2
  show Str.mk (cs.toArray ++ ds.toArray) = _
  simp
theorem listT_s (h : cs.length < 100000) : listTO (dS cs) = some (.lst (cs.map dC)) := by
  show (if (strN cs).cps.size ≤ sizeLine then some (O.lst (signsL (strN cs))) else none) = _
  rw [signs_s, if_pos (by have := le_size h; simpa using this)]
end
theorem bls_map (bs : List Bool) : D.bls (bs.map D.bl) = some bs := by
  induction bs with
  | nil => rfl
  | cons b bs ih => simp only [List.map, D.bls, ih, Option.map_some]
theorem all_bls (bs : List Bool) : allD (.lst (bs.map D.bl)) = some (.bl (bs.all id)) := by simp only [allD, bls_map, Option.map_some]
theorem strs_c (cs : List Nat) : D.strs (cs.map dC) = some (cs.map fun c => (⟨#[c]⟩ : Str)) := by
  induction cs with
  | nil => rfl
  | cons c cs ih => simp only [List.map, D.strs, ih, Option.map_some]
theorem txt_join (a : Str) (zs : List Str) : Txt.join a zs = Str.join a zs := by
  show Builtin.Str.glued a zs = _
  rw [PySem.StrLaws.glued_eq_join]
theorem join0 (cs : List Nat) : Txt.join (strN []) (cs.map fun c => (⟨#[c]⟩ : Str)) = strN cs := by
  induction cs with
  | nil => rfl
  | cons c cs ih =>
    cases cs with
    | nil => rfl
    | cons d cs =>
      rw [txt_join] at ih ⊢
      show ((⟨#[c]⟩ : Str) ++ strN []) ++ Str.join (strN []) ((d :: cs).map fun c => (⟨#[c]⟩ : Str)) = _
      rw [ih]
      show Str.mk ((#[c] ++ #[]) ++ (d :: cs).toArray) = _
      simp
theorem join_s {cs : List Nat} (h : cs.length < 100000) : joinD (dS []) (.lst (cs.map dC)) = some (dS cs) := by
  show (D.strs (cs.map dC)).bind _ = _
  rw [strs_c]
  show (if _ then some (D.str (Txt.join (strN []) (cs.map fun c => (⟨#[c]⟩ : Str)))) else none) = _
  rw [join0, if_pos]
  have : ((cs.map fun c => (⟨#[c]⟩ : Str)).map (·.length)).sum = cs.length := by
    clear h
    induction cs with
    | nil => rfl
    | cons c cs ih =>
      rw [List.map_cons, List.map_cons, List.sum_cons, ih, List.length_cons]
      show 1 + _ = _
      omega
  rw [this, List.length_map]
  show cs.length + cs.length * 0 ≤ _
  omega
end Nc
namespace Nc
open PySem PySem.Spec PyProof.Rows L2
def small : List Nat := (List.range 26).map (97 + ·)
theorem small_eq : (("abcdefghijklmnopqrstuvwxyz" : String) : Str) = strN small := by decide +kernel
def ascB (cs : List Nat) : Bool := ((cs.zip (cs.drop 1)).map fun p => decide (p.1 < p.2)).all id
def isLet (cs : List Nat) : Bool := decide (1 ≤ cs.length) && decide (cs.length ≤ 4) && (cs.map fun c => decide (c ∈ small)).all id && ascB cs
theorem is_letters_run {cs : List Nat} {g : Cells} (h : cs.length < 100000) : F_is_letters [dS cs] g = .ok (.bl (isLet cs)) g := by
  apply run_sat rfl rfl
  by_cases h1 : 1 ≤ cs.length
  · by_cases h2 : cs.length ≤ 4
    · simp only [EV1, EV2, EV3, EV4, EV5, EV6, EV7, EV8, EV9, EV10, EV11, EV12, EV13, EV14, EV15, EV16, EV17, EV18, EV19, EV20, EV21, EV22, EV23, vals, List.replicate, Nat.reduceBEq, Nat.reduceAdd, Nat.reduceLT, Nat.reduceSub, Nat.reduceMul, Nat.reduceLeDiff, Nat.reduceEqDiff, OP1, OP2, h_is_letters, len_s h, decide_eq_true h1, decide_eq_true h2, items_s]
      refine' Sat.step (lcL_mapS (r := fun c => .bl (decide (c ∈ small))) (fun c hc => ?_) (by omega)) ?_
      · simp only [EV1, EV2, EV3, EV4, EV5, EV6, EV7, EV8, EV9, EV10, EV11, EV12, EV13, EV14, EV15, EV16, EV17, EV18, EV19, EV20, EV21, EV22, EV23, vals, List.replicate, Nat.reduceBEq, Nat.reduceAdd, Nat.reduceLT, Nat.reduceSub, Nat.reduceMul, Nat.reduceLeDiff, Nat.reduceEqDiff, OP1, OP2, small_eq, in_cs]
        try exact rfl
      · have e : (cs.map fun c => D.bl (decide (c ∈ small))) = (cs.map fun c => decide (c ∈ small)).map D.bl := by rw [List.map_map]; rfl
        simp only [EV1, EV2, EV3, EV4, EV5, EV6, EV7, EV8, EV9, EV10, EV11, EV12, EV13, EV14, EV15, EV16, EV17, EV18, EV19, EV20, EV21, EV22, EV23, vals, List.replicate, Nat.reduceBEq, Nat.reduceAdd, Nat.reduceLT, Nat.reduceSub, Nat.reduceMul, Nat.reduceLeDiff, Nat.reduceEqDiff, OP1, OP2, e, all_bls]
        rcases Bool.eq_false_or_eq_true ((cs.map fun c => decide (c ∈ small)).all id) with q | q
        · rw [q]
          simp only [EV1, EV2, EV3, EV4, EV5, EV6, EV7, EV8, EV9, EV10, EV11, EV12, EV13, EV14, EV15, EV16, EV17, EV18, EV19, EV20, EV21, EV22, EV23, vals, List.replicate, Nat.reduceBEq, Nat.reduceAdd, Nat.reduceLT, Nat.reduceSub, Nat.reduceMul, Nat.reduceLeDiff, Nat.reduceEqDiff, OP1, OP2, slS_from h, zip_ss, zipPairs_map]
          refine' Sat.step (lcL_mapS (r := fun p => .bl (decide (p.1 < p.2))) (fun c hc => ?_) (by rw [List.length_zip]; omega)) ?_
          · simp only [EV1, EV2, EV3, EV4, EV5, EV6, EV7, EV8, EV9, EV10, EV11, EV12, EV13, EV14, EV15, EV16, EV17, EV18, EV19, EV20, EV21, EV22, EV23, vals, List.replicate, Nat.reduceBEq, Nat.reduceAdd, Nat.reduceLT, Nat.reduceSub, Nat.reduceMul, Nat.reduceLeDiff, Nat.reduceEqDiff, OP1, OP2, lt_cc]
            try exact rfl
          · have e : ((cs.zip (cs.drop 1)).map fun p => D.bl (decide (p.1 < p.2))) = ((cs.zip (cs.drop 1)).map fun p => decide (p.1 < p.2)).map D.bl := by rw [List.map_map]; rfl
            simp only [EV1, EV2, EV3, EV4, EV5, EV6, EV7, EV8, EV9, EV10, EV11, EV12, EV13, EV14, EV15, EV16, EV17, EV18, EV19, EV20, EV21, EV22, EV23, vals, List.replicate, Nat.reduceBEq, Nat.reduceAdd, Nat.reduceLT, Nat.reduceSub, Nat.reduceMul, Nat.reduceLeDiff, Nat.reduceEqDiff, OP1, OP2, e, all_bls]
            refine ⟨?_, rfl⟩
            unfold isLet ascB
            rw [decide_eq_true h1, decide_eq_true h2, q]
            rfl
        · rw [q]
          simp only [EV1, EV2, EV3, EV4, EV5, EV6, EV7, EV8, EV9, EV10, EV11, EV12, EV13, EV14, EV15, EV16, EV17, EV18, EV19, EV20, EV21, EV22, EV23, vals, List.replicate, Nat.reduceBEq, Nat.reduceAdd, Nat.reduceLT, Nat.reduceSub, Nat.reduceMul, Nat.reduceLeDiff, Nat.reduceEqDiff, OP1, OP2]
          refine ⟨?_, rfl⟩
          unfold isLet
          rw [decide_eq_true h1, decide_eq_true h2, q]
          rfl
    · simp only [EV1, EV2, EV3, EV4, EV5, EV6, EV7, EV8, EV9, EV10, EV11, EV12, EV13, EV14, EV15, EV16, EV17, EV18, EV19, EV20, EV21, EV22, EV23, vals, List.replicate, Nat.reduceBEq, Nat.reduceAdd, Nat.reduceLT, Nat.reduceSub, Nat.reduceMul, Nat.reduceLeDiff, Nat.reduceEqDiff, OP1, OP2, h_is_letters, len_s h, decide_eq_true h1, decide_eq_false h2]
      refine ⟨?_, rfl⟩
      unfold isLet
      rw [decide_eq_false h2, Bool.and_false]
      rfl
  · simp only [EV1, EV2, EV3, EV4, EV5, EV6, EV7, EV8, EV9, EV10, EV11, EV12, EV13, EV14, EV15, EV16, EV17, EV18, EV19, EV20, EV21, EV22, EV23, vals, List.replicate, Nat.reduceBEq, Nat.reduceAdd, Nat.reduceLT, Nat.reduceSub, Nat.reduceMul, Nat.reduceLeDiff, Nat.reduceEqDiff, OP1, OP2, h_is_letters, len_s h, decide_eq_false h1]
    refine ⟨?_, rfl⟩
    unfold isLet
    rw [decide_eq_false h1]
    rfl
theorem kb_ii : kitB "int" "int" = some true := by decide +kernel
theorem isi_int {i : Int} : isiD "int" (.int i) = some (.bl true) := isi_some rfl kb_ii
theorem isi_intb {i : Int} : isiD "bool" (.int i) = some (.bl false) := isi_some rfl kb_ib
theorem is_number_run {i lo hi : Int} {g : Cells} : F_is_number [.int i, .int lo, .int hi] g = .ok (.bl (decide (lo ≤ i) && decide (i ≤ hi))) g := by
  apply run_sat rfl rfl
  simp only [EV1, EV2, EV3, EV4, EV5, EV6, EV7, EV8, EV9, EV10, EV11, EV12, EV13, EV14, EV15, EV16, EV17, EV18, EV19, EV20, EV21, EV22, EV23, vals, List.replicate, Nat.reduceBEq, Nat.reduceAdd, Nat.reduceLT, Nat.reduceSub, Nat.reduceMul, Nat.reduceLeDiff, Nat.reduceEqDiff, OP1, OP2, h_is_number, isi_int, isi_intb, le_ii]
  rcases Bool.eq_false_or_eq_true (decide (lo ≤ i)) with q | q
  · rw [q]
    simp only [EV1, EV2, EV3, EV4, EV5, EV6, EV7, EV8, EV9, EV10, EV11, EV12, EV13, EV14, EV15, EV16, EV17, EV18, EV19, EV20, EV21, EV22, EV23, vals, List.replicate, Nat.reduceBEq, Nat.reduceAdd, Nat.reduceLT, Nat.reduceSub, Nat.reduceMul, Nat.reduceLeDiff, Nat.reduceEqDiff, OP1, OP2, le_ii]
    exact ⟨rfl, rfl⟩
  · rw [q]
    simp only [EV1, EV2, EV3, EV4, EV5, EV6, EV7, EV8, EV9, EV10, EV11, EV12, EV13, EV14, EV15, EV16, EV17, EV18, EV19, EV20, EV21, EV22, EV23, vals, List.replicate, Nat.reduceBEq, Nat.reduceAdd, Nat.reduceLT, Nat.reduceSub, Nat.reduceMul, Nat.reduceLeDiff, Nat.reduceEqDiff, OP1, OP2]
    exact ⟨rfl, rfl⟩
theorem number_n {k m : Nat} {lo : Int} {g : Cells} (h : lo ≤ k) (h2 : k ≤ m) : F_is_number [dN k, .int lo, dN m] g = .ok (.bl true) g := by
  rw [is_number_run, decide_eq_true h, decide_eq_true (by omega)]
  rfl
theorem kb_tt2 : kitB "tuple" "tuple" = some true := by decide +kernel
theorem kb_ss : kitB "str" "str" = some true := by decide +kernel
abbrev dStep (s : Nat × Nat × Nat) : D := .tup [dN s.1, dC s.2.1, dN s.2.2]
theorem isi_tup {ds : List D} : isiD "tuple" (.tup ds) = some (.bl true) := isi_some rfl kb_tt2
theorem isi_str {z : Str} : isiD "str" (.str z) = some (.bl true) := isi_some rfl kb_ss
theorem flats_c (cs : List Nat) : D.flats (cs.map dC) = some (cs.map fun c => V.str ⟨#[c]⟩) := by
  induction cs with
  | nil => rfl
  | cons c cs ih => simp only [List.map, D.flats, D.flat, ih]
theorem in_lc {c : Nat} {cs : List Nat} : inD (dC c) (.lst (cs.map dC)) = some (.bl (decide (c ∈ cs))) := by
  have : inS (dC c) (.lst (cs.map dC)) = some (inV (.str ⟨#[c]⟩) (cs.map fun c => V.str ⟨#[c]⟩)) := by
    simp only [inS, D.flat, flats_c]
  unfold inD
  rw [this]
  simp only [Option.map_some]
  have e : inV (.str ⟨#[c]⟩) (cs.map fun c => V.str ⟨#[c]⟩) = decide (c ∈ cs) := by
    clear this
    unfold inV
    induction cs with
    | nil => rfl
    | cons d cs ih =>
      rw [List.map_cons, List.any_cons, ih]
      have e1 : eqV (V.str ⟨#[d]⟩) (V.str ⟨#[c]⟩) = decide (d = c) := by
        show decide ((⟨#[d]⟩ : Str) = ⟨#[c]⟩) = _
        simp
      rw [e1]
      by_cases h : c = d
      · subst h
        simp
      · have h2 : ¬ d = c := fun z => h z.symm
        simp [h, h2]
  rw [e]
end Nc
namespace Nc
open PySem PySem.Spec PyProof.Rows L2
theorem run_satU {n k : Nat} {h : M Out} {ds : List D} {g g' : Cells} {l : List (Option Slot)} (hl : ds.length = k) (hs : vals ds ++ List.replicate (n - ds.length) none = l) (e : Sat (h ⟨l, g⟩) fun o ρ => o = .nx ∧ ρ.g = g') : runB n k h ds g = .ok .non g' := by
  obtain ⟨o, ρ, e2, rfl, rfl⟩ := e.get
  exact run_nx hl hs e2
theorem in_llc {c : Nat} {cs : List Nat} : inD (dC c) (.lst (cs.map dC)) = some (.bl (decide (c ∈ cs))) := in_lc
theorem is_step_run {s : Nat × Nat × Nat} {cs : List Nat} {n : Nat} {g : Cells} (hl : cs.length < 100000) (h1 : s.1 < n) (h2 : s.2.1 ∈ cs) (h3 : s.2.2 < n) : F_is_step [dStep s, dS cs, dN n] g = .ok (.bl true) g := by
  apply run_sat rfl rfl
  have l3 : ([dN s.1, dC s.2.1, dN s.2.2] : List D).length = 3 := rfl
  simp only [EV1, EV2, EV3, EV4, EV5, EV6, EV7, EV8, EV9, EV10, EV11, EV12, EV13, EV14, EV15, EV16, EV17, EV18, EV19, EV20, EV21, EV22, EV23, vals, List.replicate, Nat.reduceBEq, Nat.reduceAdd, Nat.reduceLT, Nat.reduceSub, Nat.reduceMul, Nat.reduceLeDiff, Nat.reduceEqDiff, OP1, OP2, h_is_step, isi_tup, isi_str, sub_nn (show 1 ≤ n by omega), listT_s hl, in_llc, decide_eq_true h2, number_n (lo := ((0 : Nat) : Int)) (show ((0 : Nat) : Int) ≤ s.1 by omega) (show s.1 ≤ n - 1 by omega), number_n (lo := ((0 : Nat) : Int)) (show ((0 : Nat) : Int) ≤ s.2.2 by omega) (show s.2.2 ≤ n - 1 by omega)]
  exact ⟨rfl, rfl⟩
structure RuleN where
  ls : List Nat
  n : Nat
  rel : Nat → List Nat
  fb : Nat
  lb : Nat
abbrev ch (c : Nat) : Str := ⟨#[c]⟩
def fieldsR : List Str := ["own_letters", "own_states", "rows", "by_letter", "first_bits", "last_bits"]
def valsR (r : RuleN) : List D := [dS r.ls, dN r.n, .lst ((List.range r.n).map dN), .dk (r.ls.map fun c => .inr (ch c)) (r.ls.map fun c => dRel (r.rel c)), dN r.fb, dN r.lb]
def oRule (C : Addr) (r : RuleN) : O := .ob C fieldsR (valsR r)
def dRule (C : Addr) (r : RuleN) : D := .ob C fieldsR (valsR r)
theorem get_last {α : Type} {g : List α} {o : α} : (g ++ [o])[g.length]? = some o := by simp
theorem set_last {α : Type} {g : List α} {o o' : α} : (g ++ [o]).set g.length o' = g ++ [o'] := by simp
/-- steps of a letter as pairs -/
def stepP (ss : List (Nat × Nat × Nat)) (c : Nat) : List (Nat × Nat) := (ss.filter fun s => decide (s.2.1 = c)).map fun s => (s.1, s.2.2)
def setB (xs : List Nat) : Nat := rowS (xs.map fun x => (0, x)) 0
def mkR (ls : List Nat) (n : Nat) (ss : List (Nat × Nat × Nat)) (first last : List Nat) : RuleN := ⟨ls, n, fun c => relS n (stepP ss c), setB first, setB last⟩
/-- the parts of a rule are valid -/
structure PartsOk (ls : List Nat) (n : Nat) (ss : List (Nat × Nat × Nat)) (first last : List Nat) : Prop where
  l : isLet ls = true
  n1 : 1 ≤ n
  n2 : n ≤ 12
  st : ∀ s ∈ ss, s.1 < n ∧ s.2.1 ∈ ls ∧ s.2.2 < n
  fi : ∀ x ∈ first, x < n
  la : ∀ x ∈ last, x < n
  z1 : ss.length < 1000
  z2 : first.length < 60
  z3 : last.length < 60
  z4 : ∀ c i, (rowL (stepP ss c) i).length < 60
theorem isLet_len {ls : List Nat} (h : isLet ls = true) : 1 ≤ ls.length ∧ ls.length ≤ 4 := by
  unfold isLet at h
  simp only [Bool.and_eq_true, decide_eq_true_eq] at h
  exact ⟨h.1.1.1, h.1.1.2⟩
theorem asc_pairs : ∀ {cs : List Nat}, ascB cs = true → cs.Pairwise (· < ·)
  | [], _ => List.Pairwise.nil
  | [c], _ => List.pairwise_singleton _ _
  | c :: d :: cs, h => by
    unfold ascB at h
    simp only [List.drop_succ_cons, List.drop_zero, List.zip_cons_cons, List.map_cons, List.all_cons, id, Bool.and_eq_true, decide_eq_true_eq] at h
    have h2 : (d :: cs).Pairwise (· < ·) := asc_pairs (by unfold ascB; simpa using h.2)
    refine List.pairwise_cons.mpr ⟨fun x hx => ?_, h2⟩
    rcases List.mem_cons.mp hx with rfl | hx
    · exact h.1
    · exact Nat.lt_trans h.1 ((List.pairwise_cons.mp h2).1 x hx)
theorem isLet_asc {ls : List Nat} (h : isLet ls = true) : ls.Pairwise (· < ·) := by
  unfold isLet at h
  simp only [Bool.and_eq_true] at h
  exact asc_pairs h.2
theorem isLet_nodup {ls : List Nat} (h : isLet ls = true) : ls.Nodup := (isLet_asc h).imp fun h => Nat.ne_of_lt h
theorem keys_nodup {ls : List Nat} (h : ls.Nodup) : (ls.map fun c => (Sum.inr (ch c) : Key)).Nodup := nodup_map (fun a _ b _ e => by simpa using e) h
section
variable {C : Addr}
abbrev f1L : List Str := ["own_letters"]
abbrev f2L : List Str := ["own_letters", "own_states"]
abbrev f3L : List Str := ["own_letters", "own_states", "rows"]
abbrev f4L : List Str := ["own_letters", "own_states", "rows", "by_letter"]
abbrev f5L : List Str := ["own_letters", "own_states", "rows", "by_letter", "first_bits"]
theorem put1 {d : D} : putN "own_letters" d [] [] = (f1L, [d]) := putN_nil
theorem put2 {d a : D} : putN "own_states" d f1L [a] = (f2L, [a, d]) := by
  rw [putN_miss (by decide), putN_nil]
theorem put3 {d a b : D} : putN "rows" d f2L [a, b] = (f3L, [a, b, d]) := by
  rw [putN_miss (by decide), putN_miss (by decide), putN_nil]
theorem put4 {d a b c : D} : putN "by_letter" d f3L [a, b, c] = (f4L, [a, b, c, d]) := by
  rw [putN_miss (by decide), putN_miss (by decide), putN_miss (by decide), putN_nil]
theorem put5 {d a b c e : D} : putN "first_bits" d f4L [a, b, c, e] = (f5L, [a, b, c, e, d]) := by
  rw [putN_miss (by decide), putN_miss (by decide), putN_miss (by decide), putN_miss (by decide), putN_nil]
theorem put6 {d a b c e f : D} : putN "last_bits" d f5L [a, b, c, e, f] = (fieldsR, [a, b, c, e, f, d]) := by
  rw [putN_miss (by decide), putN_miss (by decide), putN_miss (by decide), putN_miss (by decide), putN_miss (by decide), putN_nil]
  rfl
end
abbrev RIn (c : Nat) (L N S P Q : D) (x6 x7 x8 : Option Slot) (g : Cells) : Rho := ⟨[vD (.ptr c), vD L, vD N, vD S, vD P, vD Q, x6, x7, x8, none, none, none, none], g⟩
theorem enumL_map {α : Type} (f : α → D) (xs : List α) (i : Nat) (d : D) (h : (enumL (xs.map f))[i]? = some d) : ∃ x, xs[i]? = some x ∧ d = .tup [dN i, f x] := by
  unfold enumL at h
  rw [List.getElem?_mapIdx, List.getElem?_map] at h
  cases e : xs[i]? with
  | none =>
    rw [e] at h
    cases h
  | some x =>
    rw [e] at h
    cases h
    exact ⟨x, rfl, rfl⟩
theorem rel1 {xs : List Nat} {g : Cells} (h : xs.length < 60) (hb : ∀ x ∈ xs, x < 1000) {n : Nat} (hn : n < 1000) : F_relation_of [dN n, .lst ((xs.map fun x => (0, x)).map dPair)] g = .ok (dRel (relS n (xs.map fun x => (0, x)))) g := by
  refine rel_run hn (.inl rfl) (by simp; omega) (fun i => ?_) (fun p hp => ?_)
  · have := rowL_le (xs.map fun x => (0, x)) i
    rw [List.length_map] at this
    omega
  · obtain ⟨x, hx, rfl⟩ := List.mem_map.mp hp
    exact hb x hx
theorem init_run {T : Nat → Addr} {ls : List Nat} {n : Nat} {ss : List (Nat × Nat × Nat)} {first last : List Nat} {P1 P2 P3 : D} {g : Cells} (h : PartsOk ls n ss first last) (h1 : P1 = .lst (ss.map dStep)) (h2 : P2 = .lst (first.map dN) ∨ P2 = .tup (first.map dN)) (h3 : P3 = .lst (last.map dN) ∨ P3 = .tup (last.map dN)) :
    F_Rule___init__ T [.ptr g.length, dS ls, dN n, P1, P2, P3] (g ++ [.ob (T 0) [] []]) = .ok .non (g ++ [oRule (T 0) (mkR ls n ss first last)]) := by
  subst h1
  have hl := isLet_len h.l
  have hl2 : ls.length < 100000 := by omega
  have e2 : listTO P2 = some (.lst (first.map dN)) := by rcases h2 with rfl | rfl <;> rfl
  have e3 : listTO P3 = some (.lst (last.map dN)) := by rcases h3 with rfl | rfl <;> rfl
  have i2 : itemsD P2 = some (first.map dN) := by rcases h2 with rfl | rfl <;> rfl
  have i3 : itemsD P3 = some (last.map dN) := by rcases h3 with rfl | rfl <;> rfl
  have k2 : lookG (g ++ [.ob (T 0) [] []]) P2 = some P2 := by rcases h2 with rfl | rfl <;> rfl
  have k3 : lookG (g ++ [.ob (T 0) [] []]) P3 = some P3 := by rcases h3 with rfl | rfl <;> rfl
  have hz1 := h.z1
  have hz2 := h.z2
  have hz3 := h.z3
  have hn2 := h.n2
  have hn1 := h.n1
  apply run_satU rfl rfl
  simp only [EV1, EV2, EV3, EV4, EV5, EV6, EV7, EV8, EV9, EV10, EV11, EV12, EV13, EV14, EV15, EV16, EV17, EV18, EV19, EV20, EV21, EV22, EV23, vals, List.replicate, Nat.reduceBEq, Nat.reduceAdd, Nat.reduceLT, Nat.reduceSub, Nat.reduceMul, Nat.reduceLeDiff, Nat.reduceEqDiff, OP1, OP2, h_Rule___init__, is_letters_run hl2, h.l, number_n (lo := ((1 : Nat) : Int)) (show ((1 : Nat) : Int) ≤ n by omega) h.n2]
  refine' Sat.stepI (loop_satJ (fun i ρ => ∃ x6 x7, ρ = RIn g.length (dS ls) (dN n) (.lst (ss.map dStep)) P2 P3 x6 x7 none (g ++ [.ob (T 0) [] []])) (by exact ⟨none, none, rfl⟩) (fun i d ρ hd hJ => ?_)) (fun o ρ hJ => ?_)
  · obtain ⟨x6, x7, hρ⟩ := hJ
    subst hρ
    obtain ⟨s, hs, rfl⟩ := enumL_map _ _ _ _ hd
    obtain ⟨a1, a2, a3⟩ := h.st s (List.mem_of_getElem? hs)
    simp only [EV1, EV2, EV3, EV4, EV5, EV6, EV7, EV8, EV9, EV10, EV11, EV12, EV13, EV14, EV15, EV16, EV17, EV18, EV19, EV20, EV21, EV22, EV23, vals, List.replicate, Nat.reduceBEq, Nat.reduceAdd, Nat.reduceLT, Nat.reduceSub, Nat.reduceMul, Nat.reduceLeDiff, Nat.reduceEqDiff, OP1, OP2, is_step_run hl2 a1 a2 a3]
    exact ⟨rfl, _, _, rfl⟩
  · obtain ⟨h0, x6, x7, hρ⟩ := hJ
    subst h0 hρ
    have ea : addD (.lst (first.map dN)) (.lst (last.map dN)) = some (.lst ((first ++ last).map dN)) := by
      rw [List.map_append]
      exact if_pos (by simp; have : 200 ≤ sizeLine := by decide
                       omega)
    simp only [EV1, EV2, EV3, EV4, EV5, EV6, EV7, EV8, EV9, EV10, EV11, EV12, EV13, EV14, EV15, EV16, EV17, EV18, EV19, EV20, EV21, EV22, EV23, vals, List.replicate, Nat.reduceBEq, Nat.reduceAdd, Nat.reduceLT, Nat.reduceSub, Nat.reduceMul, Nat.reduceLeDiff, Nat.reduceEqDiff, OP1, OP2, k2, k3, e2, e3, ea]
    refine' Sat.stepI (loop_satJ (fun i ρ => ∃ x8, ρ = RIn g.length (dS ls) (dN n) (.lst (ss.map dStep)) P2 P3 x6 x7 x8 (g ++ [.ob (T 0) [] []])) (by exact ⟨none, rfl⟩) (fun i d ρ hd hJ => ?_)) (fun o ρ hJ => ?_)
    · obtain ⟨x8, hρ⟩ := hJ
      subst hρ
      rw [List.getElem?_map] at hd
      obtain ⟨x, hx, e⟩ := Option.map_eq_some_iff.mp hd
      subst e
      have hxn : x < n := by
        rcases List.mem_append.mp (List.mem_of_getElem? hx) with q | q
        · exact h.fi x q
        · exact h.la x q
      simp only [EV1, EV2, EV3, EV4, EV5, EV6, EV7, EV8, EV9, EV10, EV11, EV12, EV13, EV14, EV15, EV16, EV17, EV18, EV19, EV20, EV21, EV22, EV23, vals, List.replicate, Nat.reduceBEq, Nat.reduceAdd, Nat.reduceLT, Nat.reduceSub, Nat.reduceMul, Nat.reduceLeDiff, Nat.reduceEqDiff, OP1, OP2, sub_nn (show 1 ≤ n by omega), number_n (lo := ((0 : Nat) : Int)) (show ((0 : Nat) : Int) ≤ x by omega) (show x ≤ n - 1 by omega)]
      exact ⟨rfl, _, rfl⟩
    · obtain ⟨h0, x8, hρ⟩ := hJ
      subst h0 hρ
      have o1 : ∀ d : D, fstO (T 0) "own_letters" d (.ob (T 0) [] []) = some ((), .ob (T 0) f1L [d]) := fun d => by rw [fstO_ob (by decide), put1]
      have o2 : ∀ d a : D, fstO (T 0) "own_states" d (.ob (T 0) f1L [a]) = some ((), .ob (T 0) f2L [a, d]) := fun d a => by rw [fstO_ob (by decide), put2]
      have o3 : ∀ d a b : D, fstO (T 0) "rows" d (.ob (T 0) f2L [a, b]) = some ((), .ob (T 0) f3L [a, b, d]) := fun d a b => by rw [fstO_ob (by decide), put3]
      have o4 : ∀ d a b c : D, fstO (T 0) "by_letter" d (.ob (T 0) f3L [a, b, c]) = some ((), .ob (T 0) f4L [a, b, c, d]) := fun d a b c => by rw [fstO_ob (by decide), put4]
      have o5 : ∀ d a b c e : D, fstO (T 0) "first_bits" d (.ob (T 0) f4L [a, b, c, e]) = some ((), .ob (T 0) f5L [a, b, c, e, d]) := fun d a b c e => by rw [fstO_ob (by decide), put5]
      have o6 : ∀ d a b c e f : D, fstO (T 0) "last_bits" d (.ob (T 0) f5L [a, b, c, e, f]) = some ((), .ob (T 0) fieldsR [a, b, c, e, f, d]) := fun d a b c e f => by rw [fstO_ob (by decide), put6]
      simp only [EV1, EV2, EV3, EV4, EV5, EV6, EV7, EV8, EV9, EV10, EV11, EV12, EV13, EV14, EV15, EV16, EV17, EV18, EV19, EV20, EV21, EV22, EV23, vals, List.replicate, Nat.reduceBEq, Nat.reduceAdd, Nat.reduceLT, Nat.reduceSub, Nat.reduceMul, Nat.reduceLeDiff, Nat.reduceEqDiff, OP1, OP2, o1, o2, o3, get_last, set_last, rngO_n (show n ≤ 1000000 by omega), signs_s]
      refine' Sat.step (dcL_map (k := fun c => .inr (ch c)) (r := fun c => dRel (relS n (stepP ss c))) (fun c hc => ?_) (keys_nodup (isLet_nodup h.l)) hl2) ?_
      · simp only [EV1, EV2, EV3, EV4, EV5, EV6, EV7, EV8, EV9, EV10, EV11, EV12, EV13, EV14, EV15, EV16, EV17, EV18, EV19, EV20, EV21, EV22, EV23, vals, List.replicate, Nat.reduceBEq, Nat.reduceAdd, Nat.reduceLT, Nat.reduceSub, Nat.reduceMul, Nat.reduceLeDiff, Nat.reduceEqDiff, OP1, OP2]
        have ep : ((ss.filter fun s => decide (s.2.1 = c)).map fun s => dPair (s.1, s.2.2)) = (stepP ss c).map dPair := by
          unfold stepP
          rw [List.map_map]
          rfl
        have hsl : (stepP ss c).length < 100000 := by
          unfold stepP
          rw [List.length_map]
          have := List.length_filter_le (fun s : Nat × Nat × Nat => decide (s.2.1 = c)) ss
          omega
        rw [lcL_mapF (f := dStep) (p := fun s => decide (s.2.1 = c)) (r := fun s => dPair (s.1, s.2.2)) (fun s hs => by
          simp only [EV1, EV2, EV3, EV4, EV5, EV6, EV7, EV8, EV9, EV10, EV11, EV12, EV13, EV14, EV15, EV16, EV17, EV18, EV19, EV20, EV21, EV22, EV23, vals, List.replicate, Nat.reduceBEq, Nat.reduceAdd, Nat.reduceLT, Nat.reduceSub, Nat.reduceMul, Nat.reduceLeDiff, Nat.reduceEqDiff, OP1, OP2, eq_cc]
          by_cases q : s.2.1 = c
          · simp only [EV1, EV2, EV3, EV4, EV5, EV6, EV7, EV8, EV9, EV10, EV11, EV12, EV13, EV14, EV15, EV16, EV17, EV18, EV19, EV20, EV21, EV22, EV23, vals, List.replicate, Nat.reduceBEq, Nat.reduceAdd, Nat.reduceLT, Nat.reduceSub, Nat.reduceMul, Nat.reduceLeDiff, Nat.reduceEqDiff, OP1, OP2, decide_eq_true q]
            try exact rfl
          · simp only [EV1, EV2, EV3, EV4, EV5, EV6, EV7, EV8, EV9, EV10, EV11, EV12, EV13, EV14, EV15, EV16, EV17, EV18, EV19, EV20, EV21, EV22, EV23, vals, List.replicate, Nat.reduceBEq, Nat.reduceAdd, Nat.reduceLT, Nat.reduceSub, Nat.reduceMul, Nat.reduceLeDiff, Nat.reduceEqDiff, OP1, OP2, decide_eq_false q]
            try exact rfl) (by omega), ep]
        simp only [EV1, EV2, EV3, EV4, EV5, EV6, EV7, EV8, EV9, EV10, EV11, EV12, EV13, EV14, EV15, EV16, EV17, EV18, EV19, EV20, EV21, EV22, EV23, vals, List.replicate, Nat.reduceBEq, Nat.reduceAdd, Nat.reduceLT, Nat.reduceSub, Nat.reduceMul, Nat.reduceLeDiff, Nat.reduceEqDiff, OP1, OP2, rel_run (show n < 1000 by omega) (.inl rfl) hsl (fun i => by have := h.z4 c i; omega) (fun p hp => by
          unfold stepP at hp
          obtain ⟨s, hs, rfl⟩ := List.mem_map.mp hp
          have := (h.st s (List.mem_filter.mp hs).1).2.2
          show s.2.2 < 1000
          omega)]
        try exact rfl
      · simp only [EV1, EV2, EV3, EV4, EV5, EV6, EV7, EV8, EV9, EV10, EV11, EV12, EV13, EV14, EV15, EV16, EV17, EV18, EV19, EV20, EV21, EV22, EV23, vals, List.replicate, Nat.reduceBEq, Nat.reduceAdd, Nat.reduceLT, Nat.reduceSub, Nat.reduceMul, Nat.reduceLeDiff, Nat.reduceEqDiff, OP1, OP2, o4, get_last, set_last, i2, i3]
        refine' Sat.step (lcL_mapS (f := dN) (r := fun x => dPair (0, x)) (fun x hx => ?_) (by omega)) ?_
        · simp only [EV1, EV2, EV3, EV4, EV5, EV6, EV7, EV8, EV9, EV10, EV11, EV12, EV13, EV14, EV15, EV16, EV17, EV18, EV19, EV20, EV21, EV22, EV23, vals, List.replicate, Nat.reduceBEq, Nat.reduceAdd, Nat.reduceLT, Nat.reduceSub, Nat.reduceMul, Nat.reduceLeDiff, Nat.reduceEqDiff, OP1, OP2]
          try exact rfl
        · have e5 : (first.map fun x => dPair (0, x)) = (first.map fun x => (0, x)).map dPair := by rw [List.map_map]; rfl
          have e6 : (last.map fun x => dPair (0, x)) = (last.map fun x => (0, x)).map dPair := by rw [List.map_map]; rfl
          have r0 : ∀ xs : List Nat, ((relS n (xs.map fun x => (0, x))).map dN)[0]? = some (dN (setB xs)) := fun xs => by
            unfold relS setB
            rw [List.getElem?_map, List.getElem?_map, List.getElem?_range (show 0 < n by omega)]
            rfl
          simp only [EV1, EV2, EV3, EV4, EV5, EV6, EV7, EV8, EV9, EV10, EV11, EV12, EV13, EV14, EV15, EV16, EV17, EV18, EV19, EV20, EV21, EV22, EV23, vals, List.replicate, Nat.reduceBEq, Nat.reduceAdd, Nat.reduceLT, Nat.reduceSub, Nat.reduceMul, Nat.reduceLeDiff, Nat.reduceEqDiff, OP1, OP2, e5, rel1 hz2 (fun x hx => by have := h.fi x hx; omega) (show n < 1000 by omega), r0, o5, get_last, set_last, i3]
          refine' Sat.step (lcL_mapS (f := dN) (r := fun x => dPair (0, x)) (fun x hx => ?_) (by omega)) ?_
          · simp only [EV1, EV2, EV3, EV4, EV5, EV6, EV7, EV8, EV9, EV10, EV11, EV12, EV13, EV14, EV15, EV16, EV17, EV18, EV19, EV20, EV21, EV22, EV23, vals, List.replicate, Nat.reduceBEq, Nat.reduceAdd, Nat.reduceLT, Nat.reduceSub, Nat.reduceMul, Nat.reduceLeDiff, Nat.reduceEqDiff, OP1, OP2]
            try exact rfl
          · simp only [EV1, EV2, EV3, EV4, EV5, EV6, EV7, EV8, EV9, EV10, EV11, EV12, EV13, EV14, EV15, EV16, EV17, EV18, EV19, EV20, EV21, EV22, EV23, vals, List.replicate, Nat.reduceBEq, Nat.reduceAdd, Nat.reduceLT, Nat.reduceSub, Nat.reduceMul, Nat.reduceLeDiff, Nat.reduceEqDiff, OP1, OP2, e6, rel1 hz3 (fun x hx => by have := h.la x hx; omega) (show n < 1000 by omega), r0, o6, get_last, set_last]
            exact ⟨rfl, rfl⟩
end Nc
namespace Nc
open PySem PySem.Spec PyProof.Rows L2
structure ROk (r : RuleN) : Prop where
  l : isLet r.ls = true
  n1 : 1 ≤ r.n
  n2 : r.n ≤ 12
  rel : ∀ c ∈ r.ls, IsRel r.n (r.rel c)
  fb : r.fb < 2 ^ r.n
  lb : r.lb < 2 ^ r.n
theorem rowS_lt {ps : List (Nat × Nat)} {i n : Nat} (h : ∀ p ∈ ps, p.2 < n) : rowS ps i < 2 ^ n := by
  apply Nat.lt_pow_two_of_testBit
  intro j hj
  rw [rowS_bit]
  refine decide_eq_false fun hm => ?_
  have := h _ hm
  simp at this
  omega
theorem relS_rel {n : Nat} {ps : List (Nat × Nat)} (h : ∀ p ∈ ps, p.2 < n) : IsRel n (relS n ps) := by
  refine ⟨relS_len n ps, fun x hx => ?_⟩
  unfold relS at hx
  obtain ⟨i, _, rfl⟩ := List.mem_map.mp hx
  exact rowS_lt h
theorem stepP_mem {ss : List (Nat × Nat × Nat)} {c i j : Nat} : (i, j) ∈ stepP ss c ↔ (i, c, j) ∈ ss := by
  unfold stepP
  constructor
  · intro h
    obtain ⟨⟨a, b, d⟩, h1, h2⟩ := List.mem_map.mp h
    obtain ⟨h3, h4⟩ := List.mem_filter.mp h1
    have h4 := of_decide_eq_true h4
    cases h2
    dsimp only at h4
    subst h4
    exact h3
  · intro h
    exact List.mem_map.mpr ⟨(i, c, j), List.mem_filter.mpr ⟨h, decide_eq_true rfl⟩, rfl⟩
theorem setB_lt {xs : List Nat} {n : Nat} (h : ∀ x ∈ xs, x < n) : setB xs < 2 ^ n := rowS_lt fun p hp => by
  obtain ⟨x, hx, rfl⟩ := List.mem_map.mp hp
  exact h x hx
theorem mkR_ok {ls : List Nat} {n : Nat} {ss : List (Nat × Nat × Nat)} {first last : List Nat} (h : PartsOk ls n ss first last) : ROk (mkR ls n ss first last) where
  l := h.l
  n1 := h.n1
  n2 := h.n2
  rel := fun c hc => relS_rel fun p hp => by
    obtain ⟨i, j⟩ := p
    exact (h.st _ (stepP_mem.mp hp)).2.2
  fb := setB_lt h.fi
  lb := setB_lt h.la
section
variable {C : Addr} {r : RuleN} {g : Cells} {m : Str}
theorem frozen_rule : (oRule C r).frozen = dRule C r := Eq.trans (Eq.refl _) (Eq.refl _)
theorem lookG_rule : lookG g (dRule C r) = some (dRule C r) := Eq.trans (Eq.refl _) (Eq.refl _)
theorem isOb_rule : isObD C (dRule C r) = some () := isOb_ob
theorem isAdr_rule : callOM.isAdr (dRule C r) = some () := Eq.trans (Eq.refl _) (Eq.refl _)
theorem slf_rule (h : m ∉ fieldsR) : slfD C m (dRule C r) = some () := slf_ob h
theorem slf_check : slfD C "check_text" (dRule C r) = some () := slf_rule (by decide)
theorem slf_ahead : slfD C "ahead" (dRule C r) = some () := slf_rule (by decide)
theorem slf_run : slfD C "run" (dRule C r) = some () := slf_rule (by decide)
theorem slf_first : slfD C "first" (dRule C r) = some () := slf_rule (by decide)
theorem slf_last : slfD C "last" (dRule C r) = some () := slf_rule (by decide)
theorem slf_least : slfD C "least_marking" (dRule C r) = some () := slf_rule (by decide)
theorem slf_steps : slfD C "steps" (dRule C r) = some () := slf_rule (by decide)
theorem slf_relation : slfD C "relation" (dRule C r) = some () := slf_rule (by decide)
theorem slf_many : slfD C "how_many" (dRule C r) = some () := slf_rule (by decide)
theorem slf_ismark : slfD C "is_marking" (dRule C r) = some () := slf_rule (by decide)
theorem slf_unmarked : slfD C "unmarked" (dRule C r) = some () := slf_rule (by decide)
theorem slf_backward : slfD C "backward" (dRule C r) = some () := slf_rule (by decide)
theorem slf_markings : slfD C "markings" (dRule C r) = some () := slf_rule (by decide)
theorem slf_subst : slfD C "substituted" (dRule C r) = some () := slf_rule (by decide)
theorem fld_letters : fldD C "own_letters" (dRule C r) = some (dS r.ls) := by
  unfold dRule fieldsR valsR
  rw [fldD_ob, fldL_hit]
theorem fld_states : fldD C "own_states" (dRule C r) = some (dN r.n) := by
  unfold dRule fieldsR valsR
  rw [fldD_ob, fldL_miss (by decide), fldL_hit]
theorem fld_rows : fldD C "rows" (dRule C r) = some (.lst ((List.range r.n).map dN)) := by
  unfold dRule fieldsR valsR
  rw [fldD_ob, fldL_miss (by decide), fldL_miss (by decide), fldL_hit]
def dBy (r : RuleN) : D := .dk (r.ls.map fun c => .inr (ch c)) (r.ls.map fun c => dRel (r.rel c))
theorem fld_by : fldD C "by_letter" (dRule C r) = some (dBy r) := by
  unfold dRule fieldsR valsR
  rw [fldD_ob, fldL_miss (by decide), fldL_miss (by decide), fldL_miss (by decide), fldL_hit]
  rfl
theorem fld_first : fldD C "first_bits" (dRule C r) = some (dN r.fb) := by
  unfold dRule fieldsR valsR
  rw [fldD_ob, fldL_miss (by decide), fldL_miss (by decide), fldL_miss (by decide), fldL_miss (by decide), fldL_hit]
theorem fld_last : fldD C "last_bits" (dRule C r) = some (dN r.lb) := by
  unfold dRule fieldsR valsR
  rw [fldD_ob, fldL_miss (by decide), fldL_miss (by decide), fldL_miss (by decide), fldL_miss (by decide), fldL_miss (by decide), fldL_hit]
theorem lookG_by : lookG g (dBy r) = some (dBy r) := Eq.trans (Eq.refl _) (Eq.refl _)
theorem dg_by {c : Nat} (h : c ∈ r.ls) : dgD (dBy r) (dC c) = some (dRel (r.rel c)) := by
  show keyL (.inr (ch c)) (r.ls.map fun c => .inr (ch c)) (r.ls.map fun c => dRel (r.rel c)) = _
  exact keyL_map (k := fun c => (.inr (ch c) : Key)) (r := fun c => dRel (r.rel c)) h fun y _ e => by simpa using e
end
def RU1 := And.intro @frozen_rule (And.intro @lookG_rule (And.intro @isOb_rule (And.intro @isAdr_rule (And.intro @slf_check (And.intro @slf_ahead (And.intro @slf_run (And.intro @slf_first (And.intro @slf_last (And.intro @slf_least (And.intro @slf_steps (And.intro @slf_relation (And.intro @slf_many @slf_ismark))))))))))))
def RU2 := And.intro @slf_unmarked (And.intro @slf_backward (And.intro @slf_markings (And.intro @slf_subst (And.intro @fld_letters (And.intro @fld_states (And.intro @fld_rows (And.intro @fld_by (And.intro @fld_first (And.intro @fld_last @lookG_by)))))))))
def bitsL (row n : Nat) : List Nat := (List.range n).filter (row.testBit ·)
section
variable {T : Nat → Addr} {r : RuleN} {g : Cells}
theorem bitsL_run {row n : Nat} (hn : n < 1000) : F_bits_of [dN row, dN n] g = .ok (.lst ((bitsL row n).map dN)) g := bits_run hn
theorem first_run (h : ROk r) : F_Rule_first T [dRule (T 0) r] g = .ok (.lst ((bitsL r.fb r.n).map dN)) g := by
  have hn := h.n2
  apply run_sat rfl rfl
  simp only [EV1, EV2, EV3, EV4, EV5, EV6, EV7, EV8, EV9, EV10, EV11, EV12, EV13, EV14, EV15, EV16, EV17, EV18, EV19, EV20, EV21, EV22, EV23, vals, List.replicate, Nat.reduceBEq, Nat.reduceAdd, Nat.reduceLT, Nat.reduceSub, Nat.reduceMul, Nat.reduceLeDiff, Nat.reduceEqDiff, OP1, OP2, h_Rule_first, RU1, RU2, bitsL_run (show r.n < 1000 by omega)]
  exact ⟨rfl, rfl⟩
theorem last_run (h : ROk r) : F_Rule_last T [dRule (T 0) r] g = .ok (.lst ((bitsL r.lb r.n).map dN)) g := by
  have hn := h.n2
  apply run_sat rfl rfl
  simp only [EV1, EV2, EV3, EV4, EV5, EV6, EV7, EV8, EV9, EV10, EV11, EV12, EV13, EV14, EV15, EV16, EV17, EV18, EV19, EV20, EV21, EV22, EV23, vals, List.replicate, Nat.reduceBEq, Nat.reduceAdd, Nat.reduceLT, Nat.reduceSub, Nat.reduceMul, Nat.reduceLeDiff, Nat.reduceEqDiff, OP1, OP2, h_Rule_last, RU1, RU2, bitsL_run (show r.n < 1000 by omega)]
  exact ⟨rfl, rfl⟩
theorem notIn_cs {c : Nat} {cs : List Nat} : notInD (dC c) (dS cs) = some (.bl (!decide (c ∈ cs))) := by
  have h := in_cs (c := c) (cs := cs)
  unfold inD at h
  obtain ⟨b, e1, e2⟩ := Option.map_eq_some_iff.mp h
  unfold notInD
  rw [e1]
  cases e2
  rfl
theorem check_run {cs : List Nat} (h : ∀ c ∈ cs, c ∈ r.ls) : F_Rule_check_text T [dRule (T 0) r, dS cs] g = .ok .non g := by
  apply run_satU rfl rfl
  simp only [EV1, EV2, EV3, EV4, EV5, EV6, EV7, EV8, EV9, EV10, EV11, EV12, EV13, EV14, EV15, EV16, EV17, EV18, EV19, EV20, EV21, EV22, EV23, vals, List.replicate, Nat.reduceBEq, Nat.reduceAdd, Nat.reduceLT, Nat.reduceSub, Nat.reduceMul, Nat.reduceLeDiff, Nat.reduceEqDiff, OP1, OP2, h_Rule_check_text, signs_s]
  refine' Sat.imp (loop_satJ (fun i ρ => ∃ x2 x3, ρ = ⟨[vD (dRule (T 0) r), vD (dS cs), x2, x3], g⟩) (by exact ⟨none, none, rfl⟩) (fun i d ρ hd hJ => ?_)) (fun o ρ hJ => ?_)
  · obtain ⟨x2, x3, hρ⟩ := hJ
    subst hρ
    obtain ⟨c, hc, rfl⟩ := enumL_map _ _ _ _ hd
    simp only [EV1, EV2, EV3, EV4, EV5, EV6, EV7, EV8, EV9, EV10, EV11, EV12, EV13, EV14, EV15, EV16, EV17, EV18, EV19, EV20, EV21, EV22, EV23, vals, List.replicate, Nat.reduceBEq, Nat.reduceAdd, Nat.reduceLT, Nat.reduceSub, Nat.reduceMul, Nat.reduceLeDiff, Nat.reduceEqDiff, OP1, OP2, RU1, RU2, notIn_cs, decide_eq_true (h c (List.mem_of_getElem? hc))]
    exact ⟨rfl, _, _, rfl⟩
  · obtain ⟨h0, x2, x3, hρ⟩ := hJ
    exact ⟨h0, by rw [hρ]⟩
end
end Nc
namespace Nc
open PySem PySem.Spec PyProof.Rows L2
theorem eq_nilN {xs : List Nat} (h : xs.length < 100000) : eqD (.lst (xs.map dN)) (.lst []) = some (.bl xs.isEmpty) := by
  have q := ne_nilN h
  unfold neD at q
  unfold eqD
  cases e : eqB (.lst (xs.map dN)) (.lst []) with
  | none =>
    rw [e] at q
    cases q
  | some b =>
    rw [e] at q
    simp only [Option.map_some, Option.some.injEq, D.bl.injEq] at q
    simp only [Option.map_some]
    congr 2
    cases b <;> cases hx : xs.isEmpty <;> simp_all
end Nc
namespace Nc
open PySem PySem.Spec PyProof.Rows L2
open PySem.W (AllAlike Sortable dataLe dataLt alike alikeAll)
theorem perm_map {α : Type} {f : α → D} {un : D → α} (hu : ∀ x, un (f x) = x) {l : List D} {xs : List α} (h : l.Perm (xs.map f)) : ∃ ys : List α, l = ys.map f ∧ ys.Perm xs := by
  refine ⟨l.map un, ?_, ?_⟩
  · rw [List.map_map]
    refine (List.map_id l).symm.trans (List.map_congr_left fun d hd => ?_)
    obtain ⟨x, _, rfl⟩ := List.mem_map.mp (h.mem_iff.mp hd)
    show f x = f (un (f x))
    rw [hu]
  · have := h.map un
    rw [List.map_map] at this
    have e : (xs.map (un ∘ f)) = xs := (List.map_congr_left fun x _ => hu x).trans (List.map_id _)
    rwa [e] at this
def unN : D → Nat
  | .int i => i.toNat
  | _ => 0
def unC : D → Nat
  | .str z => (z.cps.toList.head?).getD 0
  | _ => 0
def unStep : D → Nat × Nat × Nat
  | .tup [a, b, c] => (unN a, unC b, unN c)
  | _ => (0, 0, 0)
theorem unStep_d (s : Nat × Nat × Nat) : unStep (dStep s) = s := rfl
def encS (s : Nat × Nat × Nat) : PyData := .tuple [.int s.1, .str ⟨#[s.2.1]⟩, .int s.2.2]
theorem py_step (s : Nat × Nat × Nat) : (dStep s).py = some (encS s) := by
  simp only [D.py, D.pys, Option.map_some, encS]
theorem pys_map {α : Type} {f : α → D} {en : α → PyData} (h : ∀ x, (f x).py = some (en x)) : ∀ xs : List α, D.pys (xs.map f) = some (xs.map en)
  | [] => by simp only [List.map, D.pys]
  | x :: xs => by simp only [List.map, D.pys, h x, pys_map h xs]
theorem pick_all {Q : D → Prop} {ds : List D} {b : Box} {g : Cells} (h : ∀ d ∈ ds, Q d) (h0 : 0 < ds.length) (h1 : ds.length < 1000000) : ∃ (d : D) (b' : Box), F_law_pick [.ptr 0, .lst ds] (b.o :: g) = .ok d (Box.o b' :: g) ∧ Q d := by
  have hd := draw_lt (b := b) h0
  refine ⟨_, _, pick_run (.inl rfl) h0 h1, ?_⟩
  rw [List.getElem?_eq_getElem hd]
  exact h _ (List.getElem_mem hd)
theorem addO_some {acc : List D} {d : D} : addO acc (some d) = acc ++ [d] := rfl
theorem ixs_n {ls : List Nat} {k : Nat} (h : ls.length < 100000) : ixD (dS ls) (dN k) = (ls[k]?).map dC := by
  show (if (strN ls).length ≤ sizeLine then (atI (strN ls).cps.toList (k : Int)).map fun c => D.str ⟨#[c]⟩ else none) = _
  rw [str_len, if_pos (le_size h), atI_n]
theorem pickS_run {b : Box} {g : Cells} {ls : List Nat} (h0 : 0 < ls.length) (h1 : ls.length < 100000) : ∃ (c : Nat) (b' : Box), F_law_pick [.ptr 0, dS ls] (b.o :: g) = .ok (dC c) (Box.o b' :: g) ∧ c ∈ ls := by
  have hd := draw_lt (b := b) h0
  refine ⟨ls[b.draw ls.length], b.nx ls.length, ?_, List.getElem_mem hd⟩
  apply run_sat rfl rfl
  simp only [EV1, EV2, EV3, EV4, EV5, EV6, EV7, EV8, EV9, EV10, EV11, EV12, EV13, EV14, EV15, EV16, EV17, EV18, EV19, EV20, EV21, EV22, EV23, vals, List.replicate, Nat.reduceBEq, Nat.reduceAdd, Nat.reduceLT, Nat.reduceSub, Nat.reduceMul, Nat.reduceLeDiff, Nat.reduceEqDiff, OP1, OP2, h_law_pick, len_s h1, draw_run (b := b) (g := g) h0 (show ls.length < 10 ^ 40 by omega), ixs_n h1, List.getElem?_eq_getElem hd]
  exact ⟨rfl, rfl⟩
theorem str_nil : (("" : String) : Str) = strN [] := by decide +kernel
theorem text_run {b : Box} {g : Cells} {ls : List Nat} {m : Nat} (h0 : 0 < ls.length) (h1 : ls.length < 100000) (hm : m < 1000) : ∃ (cs : List Nat) (b' : Box), F_law_text [.ptr 0, dS ls, dN m] (b.o :: g) = .ok (dS cs) (Box.o b' :: g) ∧ cs.length ≤ m ∧ ∀ c ∈ cs, c ∈ ls := by
  have key : ∃ x : List Nat × Box, (x.1.length ≤ m ∧ ∀ y ∈ x.1, y ∈ ls) ∧ F_law_text [.ptr 0, dS ls, dN m] (b.o :: g) = .ok (dS x.1) (Box.o x.2 :: g) := by
    have hd := draw_lt (b := b) (show 0 < m + 1 by omega)
    apply run_satX (ι := List Nat × Box) (P := fun x => x.1.length ≤ m ∧ ∀ y ∈ x.1, y ∈ ls) (f := fun x => dS x.1) (G := fun x => x.2.o :: g) rfl rfl
    simp only [EV1, EV2, EV3, EV4, EV5, EV6, EV7, EV8, EV9, EV10, EV11, EV12, EV13, EV14, EV15, EV16, EV17, EV18, EV19, EV20, EV21, EV22, EV23, vals, List.replicate, Nat.reduceBEq, Nat.reduceAdd, Nat.reduceLT, Nat.reduceSub, Nat.reduceMul, Nat.reduceLeDiff, Nat.reduceEqDiff, OP1, OP2, h_law_text, draw_run (b := b) (g := g) (show 0 < m + 1 by omega) (show m + 1 < 10 ^ 40 by omega), rng1_n (show b.draw (m + 1) < 1000000 by omega), isSD_s]
    refine' Sat.stepI (lcL_satJ (fun i acc ρ => ∃ (xs : List Nat) (b' : Box), acc = List.map dC xs ∧ ρ = ⟨[vD (.ptr 0), vD (dS ls), vN m, none], Box.o b' :: g⟩ ∧ xs.length ≤ i ∧ ∀ y ∈ xs, y ∈ ls) (by exact ⟨[], b.nx (m + 1), rfl, rfl, Nat.le_refl _, fun y hy => by cases hy⟩) (by simp; omega) (fun i d acc ρ hd' hJ => ?_)) (fun o ρ hJ => ?_)
    · obtain ⟨xs, b', ha, hρ, hl, hb⟩ := hJ
      subst ha hρ
      rw [List.getElem?_map] at hd'
      obtain ⟨x, hx, e⟩ := Option.map_eq_some_iff.mp hd'
      subst e
      obtain ⟨c, b2, e, hc⟩ := pickS_run (b := b') (g := g) h0 h1
      simp only [EV1, EV2, EV3, EV4, EV5, EV6, EV7, EV8, EV9, EV10, EV11, EV12, EV13, EV14, EV15, EV16, EV17, EV18, EV19, EV20, EV21, EV22, EV23, vals, List.replicate, Nat.reduceBEq, Nat.reduceAdd, Nat.reduceLT, Nat.reduceSub, Nat.reduceMul, Nat.reduceLeDiff, Nat.reduceEqDiff, OP1, OP2, e]
      refine ⟨xs ++ [c], b2, by rw [addO_some, List.map_append]; rfl, rfl, by rw [List.length_append]; exact Nat.succ_le_succ hl, fun y hy => ?_⟩
      rcases List.mem_append.mp hy with hy | hy
      · exact hb y hy
      · rw [List.mem_singleton.mp hy]
        exact hc
    · obtain ⟨out, h0, xs, b', ha, hρ, hl, hb⟩ := hJ
      subst h0 ha hρ
      rw [List.length_map, List.length_range] at hl
      simp only [EV1, EV2, EV3, EV4, EV5, EV6, EV7, EV8, EV9, EV10, EV11, EV12, EV13, EV14, EV15, EV16, EV17, EV18, EV19, EV20, EV21, EV22, EV23, vals, List.replicate, Nat.reduceBEq, Nat.reduceAdd, Nat.reduceLT, Nat.reduceSub, Nat.reduceMul, Nat.reduceLeDiff, Nat.reduceEqDiff, OP1, OP2, str_nil, join_s (show xs.length < 100000 by omega)]
      exact ⟨(xs, b'), ⟨(show xs.length ≤ m by omega), hb⟩, rfl, rfl⟩
  obtain ⟨⟨xs, b'⟩, h, e⟩ := key
  exact ⟨xs, b', e, h⟩
end Nc
namespace Nc
open PySem PySem.Spec PyProof.Rows L2
structure Plan where
  ls : List Nat
  n : Nat
  ss : List (Nat × Nat × Nat)
  first : List Nat
  last : List Nat
abbrev dPlan (p : Plan) : D := .tup [dS p.ls, dN p.n, .lst (p.ss.map dStep), .lst (p.first.map dN), .lst (p.last.map dN)]
structure Plan.Ok (p : Plan) (a m : Nat) : Prop where
  parts : PartsOk p.ls p.n p.ss p.first p.last
  n : p.n ≤ a
  l : p.ls.length ≤ m
  asc : ∀ c ∈ p.ls, c < 128
theorem getMap {α : Type} {f : α → D} {xs : List α} {i : Nat} {d : D} (h : (xs.map f)[i]? = some d) : ∃ x, xs[i]? = some x ∧ d = f x := by
  rw [List.getElem?_map] at h
  obtain ⟨x, h1, h2⟩ := Option.map_eq_some_iff.mp h
  exact ⟨x, h1, h2.symm⟩
theorem add_lsts {ds es : List D} (h : ds.length + es.length < 100000) : addD (.lst ds) (.lst es) = some (.lst (ds ++ es)) := if_pos (le_size h)
def StepsIn (n : Nat) (ls : List Nat) (ss : List (Nat × Nat × Nat)) : Prop := ∀ s ∈ ss, s.1 < n ∧ s.2.1 ∈ ls ∧ s.2.2 < n
abbrev RPl (a m : Nat) (ls : List Nat) (n way : Nat) (ss : List (Nat × Nat × Nat)) (x7 x8 x9 : Option Slot) (b : Box) (g : Cells) : Rho := ⟨[vD (.ptr 0), vN a, vN m, vD (dS ls), vN n, vN way, vD (.lst (ss.map dStep)), x7, x8, x9, none], b.o :: g⟩
abbrev ruleOf (p : Plan) : RuleN := mkR p.ls p.n p.ss p.first p.last
theorem noPs_nats (k : Nat) (xs : List Nat) : noPs k (xs.map dN) := by
  induction xs with
  | nil => simp only [List.map, noPs]
  | cons x xs ih => exact (by simp only [List.map, noPs, noP]; exact ⟨trivial, ih⟩)
theorem noPs_rels (k : Nat) (f : Nat → List Nat) (cs : List Nat) : noPs k (cs.map fun c => dRel (f c)) := by
  induction cs with
  | nil => simp only [List.map, noPs]
  | cons x xs ih => exact (by simp only [List.map, noPs, noP]; exact ⟨noPs_nats k _, ih⟩)
theorem noP_rule {C : Addr} {r : RuleN} (k : Nat) : noP k (oRule C r).frozen := by
  show noP k (.ob C fieldsR (valsR r))
  simp only [noP, valsR, noPs]
  exact ⟨trivial, trivial, noPs_nats k _, noPs_rels k _ _, trivial, trivial, trivial⟩
end Nc
namespace Nc
open PySem PySem.Spec PyProof.Rows L2
open PySem.W (AlikeAll dataLt alike alikeAll minD rowLt)
theorem flat_len {α β : Type} {f : α → List β} {m : Nat} (h : ∀ x, (f x).length ≤ m) : ∀ xs : List α, (xs.flatMap f).length ≤ xs.length * m
  | [] => Nat.zero_le _
  | x :: xs => by
    rw [List.flatMap_cons, List.length_append, List.length_cons, Nat.succ_mul]
    have := flat_len h xs
    have := h x
    omega
end Nc
namespace Nc
open PySem PySem.Spec PyProof.Rows L2
open PySem.W (AlikeAll dataLt alike alikeAll minD rowLt)
theorem last_snoc {row : List Nat} {t : Nat} : (row ++ [t]).getLastD 0 = t := by
  rw [List.getLastD_eq_getLast?]
  simp
end Nc
set_option maxHeartbeats 2000000
namespace Nc
open PySem PySem.Spec PyProof.Rows L2
section
variable {T : Nat → Addr} {ls : List Nat} {n : Nat} {ss : List (Nat × Nat × Nat)} {N P1 P2 P3 : D} {g : Cells}
abbrev xnOf (T : Nat → Addr) (n : Nat) (f code : Str) (d : D) : Xn := ⟨T n, n, ["code", f], [.str code, d]⟩
theorem enumL_atD {ds : List D} {i : Nat} {d : D} (h : ds[i]? = some d) : (enumL ds)[i]? = some (.tup [dN i, d]) := by
  unfold enumL
  rw [List.getElem?_mapIdx, h]
  rfl
theorem enumL_get {ds : List D} {i : Nat} {e : D} (h : (enumL ds)[i]? = some e) : ∃ d, ds[i]? = some d ∧ e = .tup [dN i, d] := by
  unfold enumL at h
  rw [List.getElem?_mapIdx] at h
  cases q : ds[i]? with
  | none =>
    rw [q] at h
    cases h
  | some d =>
    rw [q] at h
    cases h
    exact ⟨d, rfl, rfl⟩
end
end Nc
set_option maxHeartbeats 2000000
namespace Nc
open PySem PySem.Spec PyProof.Rows L2
open PySem.W (AllAlike Sortable dataLe dataLt alike alikeAll keyToks keyToksAll)
/-- the order of steps, as Python compares tuples -/
def ltS (s t : Nat × Nat × Nat) : Prop := dataLt (encS s) (encS t) = true
theorem ltS_irr (s : Nat × Nat × Nat) : ¬ ltS s s := fun h => by
  have e : dataLt (encS s) (encS s) = false := (listOrd itemOrd).irrefl (keyToks (encS s))
  rw [ltS, e] at h
  cases h
theorem toks_inj {s t : Nat × Nat × Nat} (h : keyToks (encS s) = keyToks (encS t)) : s = t := by
  obtain ⟨a, b, c⟩ := s
  obtain ⟨d, e, f⟩ := t
  simp [encS, keyToks, keyToksAll] at h
  obtain ⟨h1, h2, h3⟩ := h
  have h1' : a = d := by omega
  have h3' : c = f := by omega
  rw [h1', h2, h3']
theorem ltS_total {s t : Nat × Nat × Nat} (h : s ≠ t) : ltS s t ∨ ltS t s := by
  by_cases h1 : ltS s t
  · exact .inl h1
  · by_cases h2 : ltS t s
    · exact .inr h2
    · exfalso
      have e1 : (listOrd itemOrd).blt (keyToks (encS s)) (keyToks (encS t)) = false := Bool.eq_false_iff.mpr h1
      have e2 : (listOrd itemOrd).blt (keyToks (encS t)) (keyToks (encS s)) = false := Bool.eq_false_iff.mpr h2
      exact h (toks_inj ((listOrd itemOrd).total _ _ e1 e2))
abbrev SortS (ss : List (Nat × Nat × Nat)) : Prop := ss.Pairwise ltS
theorem sortS_nodup {ss : List (Nat × Nat × Nat)} (h : SortS ss) : ss.Nodup := List.Pairwise.imp (fun {a b} (hab : ltS a b) (e : a = b) => ltS_irr a (by rw [← e] at hab; exact hab)) h
theorem enc_step (s : Nat × Nat × Nat) : enc (dStep s) = encS s := by
  unfold enc
  rw [py_step]
  rfl
/-- what sorted() makes of different steps -/
theorem sort_nodup {ss : List (Nat × Nat × Nat)} (hn : ss.Nodup) : ∃ ss' : List (Nat × Nat × Nat), sortDO (.lst (ss.map dStep)) = some (.lst (ss'.map dStep)) ∧ ss'.Perm ss ∧ SortS ss' := by
  have ho : okS (ss.map dStep) := by
    refine ⟨ss.map encS, pys_map py_step ss, AllAlike.of fun a b => ?_, Sortable.tuples fun a => ⟨_, _, rfl⟩, fun p hp => ?_⟩
    · simp [encS, alike, alikeAll]
    · obtain ⟨s, _, rfl⟩ := List.mem_map.mp hp
      simp [encS, PyData.depth, PyData.depthAll]
  obtain ⟨ss', e, hp⟩ := perm_map unStep_d (show (sortL (ss.map dStep)).Perm (ss.map dStep) from List.mergeSort_perm _ _)
  refine ⟨ss', ?_, hp, ?_⟩
  · rw [← e]
    simp only [sortDO]
    rw [if_pos ho]
  · have hs : (sortL (ss.map dStep)).Pairwise fun a b => dataLe false enc a b = true := by
      have z := PySem.W.sortLe_total (PyProof.Rows.listOrd itemOrd) false (fun d : D => keyToks (enc d))
      exact List.pairwise_mergeSort (le := dataLe false enc) (fun a b c => z.trans a b c) (fun a b => by rcases z.total a b with q | q <;> simp [dataLe, q]) _
    rw [e, List.pairwise_map] at hs
    have hn' : ss'.Nodup := hp.nodup_iff.mpr hn
    refine (hs.and hn').imp fun {a b} h => ?_
    obtain ⟨h1, h2⟩ := h
    rw [PySem.W.dataLe_eq] at h1
    have h1 : (!dataLt (enc (dStep b)) (enc (dStep a))) = true := h1
    rw [enc_step, enc_step] at h1
    rcases ltS_total h2 with q | q
    · exact q
    · rw [ltS] at q
      rw [q] at h1
      cases h1
end Nc
set_option maxHeartbeats 2000000
namespace Nc
open PySem PySem.Spec PyProof.Rows L2
theorem range_at {n i x : Nat} (h : (List.range n)[i]? = some x) : x = i := by
  obtain ⟨h1, h2⟩ := List.getElem?_eq_some_iff.mp h
  rw [List.getElem_range] at h2
  exact h2.symm
theorem asc_snoc {xs : List Nat} {x : Nat} (h : xs.Pairwise (· < ·)) (hb : ∀ y ∈ xs, y < x) : (xs ++ [x]).Pairwise (· < ·) := List.pairwise_append.mpr ⟨h, List.pairwise_singleton _ _, fun a ha b hb' => by
  rw [List.mem_singleton.mp hb']
  exact hb a ha⟩
theorem _root_.List.Pairwise.nodupN {xs : List Nat} (h : xs.Pairwise (· < ·)) : xs.Nodup := List.Pairwise.imp (fun {a b} (hab : a < b) (e : a = b) => Nat.lt_irrefl _ (by rw [e] at hab; exact hab)) h
/-- a plan in order -/
structure Plan.Can (p : Plan) : Prop where
  l : isLet p.ls = true
  n1 : 1 ≤ p.n
  n2 : p.n ≤ 12
  st : StepsIn p.n p.ls p.ss
  so : SortS p.ss
  fa : p.first.Pairwise (· < ·)
  fi : ∀ x ∈ p.first, x < p.n
  la : p.last.Pairwise (· < ·)
  li : ∀ x ∈ p.last, x < p.n
  asc : ∀ c ∈ p.ls, c < 128 ∧ c ≠ 113
/-- steps ahead of a letter and of a state by it -/
def Bef (ls : List Nat) (i c k : Nat) (ss : List (Nat × Nat × Nat)) : Prop := ∀ s ∈ ss, (∃ j, j < i ∧ ls[j]? = some s.2.1) ∨ (s.2.1 = c ∧ s.1 < k)
theorem Bef.start {ls : List Nat} {i c : Nat} {ss : List (Nat × Nat × Nat)} (h : Bef ls i 0 0 ss) : Bef ls i c 0 ss := fun s hs => by
  rcases h s hs with q | q
  · exact .inl q
  · exact absurd q.2 (Nat.not_lt_zero _)
theorem Bef.next {ls : List Nat} {i c k : Nat} {ss : List (Nat × Nat × Nat)} (h : Bef ls i c k ss) (hc : ls[i]? = some c) : Bef ls (i + 1) 0 0 ss := fun s hs => by
  rcases h s hs with ⟨j, hj, e⟩ | q
  · exact .inl ⟨j, by omega, e⟩
  · exact .inl ⟨i, by omega, by rw [q.1]; exact hc⟩
theorem bef_snoc {ls : List Nat} {i c k u : Nat} {ss : List (Nat × Nat × Nat)} {zs : List Nat} (h : Bef ls i c k ss) (e : u = k) : Bef ls i c (k + 1) (ss ++ zs.map fun z => (u, c, z)) := fun s hs => by
  rcases List.mem_append.mp hs with q | q
  · rcases h s q with q | q
    · exact .inl q
    · exact .inr ⟨q.1, by omega⟩
  · obtain ⟨z, _, rfl⟩ := List.mem_map.mp q
    exact .inr ⟨rfl, by rw [e]; exact Nat.lt_succ_self k⟩
theorem bef_nodup {ls : List Nat} {i c k u : Nat} {ss : List (Nat × Nat × Nat)} {zs : List Nat} (hn : ss.Nodup) (h : Bef ls i c k ss) (hc : ls[i]? = some c) (hln : ls.Nodup) (hz : zs.Nodup) (hu : k ≤ u) : (ss ++ zs.map fun z => (u, c, z)).Nodup := by
  refine List.nodup_append.mpr ⟨hn, nodup_map (fun a _ b _ e => by cases e; rfl) hz, fun s hs t ht e => ?_⟩
  obtain ⟨z, _, rfl⟩ := List.mem_map.mp ht
  subst e
  rcases h _ hs with ⟨j, hj, e⟩ | q
  · have e : ls[j]? = some c := e
    have := (List.getElem?_inj (List.getElem?_eq_some_iff.mp e).1 hln).mp (e.trans hc.symm)
    omega
  · have : u < k := q.2
    omega
def Word2 (m : Nat) (d : D) : Prop := ∃ ls, d = dS ls ∧ isLet ls = true ∧ ls.length = m ∧ ∀ c ∈ ls, c < 128 ∧ c ≠ 113
theorem word_of2 {s : Str} (ls : List Nat) (h : s = strN ls) (h2 : isLet ls = true) {m : Nat} (h4 : ls.length = m) (h3 : (ls.all fun c => decide (c < 128 ∧ c ≠ 113)) = true) : Word2 m (.str s) := ⟨ls, congrArg D.str h, h2, h4, fun c hc => of_decide_eq_true (List.all_eq_true.mp h3 c hc)⟩
theorem letters_run2 {b : Box} {g : Cells} {j : Nat} (hj : j < 4) : ∃ (d : D) (b' : Box), F_law_letters [.ptr 0, dN (1 + j)] (b.o :: g) = .ok d (Box.o b' :: g) ∧ Word2 (1 + j) d := by
  have w1 : ∀ d ∈ ([.str "a", .str "b", .str "z"] : List D), Word2 1 d := by
    intro d hd
    simp only [List.mem_cons, List.not_mem_nil, or_false] at hd
    rcases hd with rfl | rfl | rfl
    · exact word_of2 [97] (by decide +kernel) (by decide +kernel) rfl (by decide)
    · exact word_of2 [98] (by decide +kernel) (by decide +kernel) rfl (by decide)
    · exact word_of2 [122] (by decide +kernel) (by decide +kernel) rfl (by decide)
  have w2 : ∀ d ∈ ([.str "ab", .str "bz", .str "an"] : List D), Word2 2 d := by
    intro d hd
    simp only [List.mem_cons, List.not_mem_nil, or_false] at hd
    rcases hd with rfl | rfl | rfl
    · exact word_of2 [97, 98] (by decide +kernel) (by decide +kernel) rfl (by decide)
    · exact word_of2 [98, 122] (by decide +kernel) (by decide +kernel) rfl (by decide)
    · exact word_of2 [97, 110] (by decide +kernel) (by decide +kernel) rfl (by decide)
  have w3 : ∀ d ∈ ([.str "abc", .str "axz", .str "bcd"] : List D), Word2 3 d := by
    intro d hd
    simp only [List.mem_cons, List.not_mem_nil, or_false] at hd
    rcases hd with rfl | rfl | rfl
    · exact word_of2 [97, 98, 99] (by decide +kernel) (by decide +kernel) rfl (by decide)
    · exact word_of2 [97, 120, 122] (by decide +kernel) (by decide +kernel) rfl (by decide)
    · exact word_of2 [98, 99, 100] (by decide +kernel) (by decide +kernel) rfl (by decide)
  have w4 : ∀ d ∈ ([.str "abcd", .str "amyz", .str "wxyz"] : List D), Word2 4 d := by
    intro d hd
    simp only [List.mem_cons, List.not_mem_nil, or_false] at hd
    rcases hd with rfl | rfl | rfl
    · exact word_of2 [97, 98, 99, 100] (by decide +kernel) (by decide +kernel) rfl (by decide)
    · exact word_of2 [97, 109, 121, 122] (by decide +kernel) (by decide +kernel) rfl (by decide)
    · exact word_of2 [119, 120, 121, 122] (by decide +kernel) (by decide +kernel) rfl (by decide)
  have key : ∀ ds : List D, ds.length = 3 → (∀ d ∈ ds, Word2 (1 + j) d) → ([.lst [.str "a", .str "b", .str "z"], .lst [.str "ab", .str "bz", .str "an"], .lst [.str "abc", .str "axz", .str "bcd"], .lst [.str "abcd", .str "amyz", .str "wxyz"]] : List D)[j]? = some (.lst ds) → ∃ (d : D) (b' : Box), F_law_letters [.ptr 0, dN (1 + j)] (b.o :: g) = .ok d (Box.o b' :: g) ∧ Word2 (1 + j) d := by
    intro ds h3 hw hg
    obtain ⟨d, b', e, h⟩ := pick_all (b := b) (g := g) hw (by omega) (by omega)
    refine ⟨d, b', ?_, h⟩
    apply run_sat rfl rfl
    simp only [EV1, EV2, EV3, EV4, EV5, EV6, EV7, EV8, EV9, EV10, EV11, EV12, EV13, EV14, EV15, EV16, EV17, EV18, EV19, EV20, EV21, EV22, EV23, vals, List.replicate, Nat.reduceBEq, Nat.reduceAdd, Nat.reduceLT, Nat.reduceSub, Nat.reduceMul, Nat.reduceLeDiff, Nat.reduceEqDiff, OP1, OP2, h_law_letters, sub_nn (show 1 ≤ 1 + j by omega), Nat.add_sub_cancel_left, hg, e]
    exact ⟨rfl, rfl⟩
  rcases (show j = 0 ∨ j = 1 ∨ j = 2 ∨ j = 3 by omega) with rfl | rfl | rfl | rfl
  · exact key _ rfl w1 rfl
  · exact key _ rfl w2 rfl
  · exact key _ rfl w3 rfl
  · exact key _ rfl w4 rfl
theorem some_run2 {b : Box} {g : Cells} {n : Nat} (hn : n < 1000) : ∃ (xs : List Nat) (b' : Box), F_law_some [.ptr 0, dN n] (b.o :: g) = .ok (.lst (xs.map dN)) (Box.o b' :: g) ∧ xs.Pairwise (· < ·) ∧ ∀ x ∈ xs, x < n := by
  have key : ∃ x : List Nat × Box, (x.1.Pairwise (· < ·) ∧ ∀ y ∈ x.1, y < n) ∧ F_law_some [.ptr 0, dN n] (b.o :: g) = .ok (.lst (x.1.map dN)) (Box.o x.2 :: g) := by
    apply run_satX (ι := List Nat × Box) (P := fun x => x.1.Pairwise (· < ·) ∧ ∀ y ∈ x.1, y < n) (f := fun x => .lst (x.1.map dN)) (G := fun x => x.2.o :: g) rfl rfl
    simp only [EV1, EV2, EV3, EV4, EV5, EV6, EV7, EV8, EV9, EV10, EV11, EV12, EV13, EV14, EV15, EV16, EV17, EV18, EV19, EV20, EV21, EV22, EV23, vals, List.replicate, Nat.reduceBEq, Nat.reduceAdd, Nat.reduceLT, Nat.reduceSub, Nat.reduceMul, Nat.reduceLeDiff, Nat.reduceEqDiff, OP1, OP2, h_law_some, rng1_n (show n < 1000000 by omega)]
    refine' Sat.stepI (lcL_satJ (fun i acc ρ => ∃ (xs : List Nat) (b' : Box), acc = List.map dN xs ∧ ρ = ⟨[vD (.ptr 0), vN n, none], Box.o b' :: g⟩ ∧ xs.Pairwise (· < ·) ∧ ∀ y ∈ xs, y < i) (by exact ⟨[], b, rfl, rfl, List.Pairwise.nil, fun y hy => by cases hy⟩) (by simp; omega) (fun i d acc ρ hd hJ => ?_)) (fun o ρ hJ => ?_)
    · obtain ⟨xs, b', ha, hρ, hl, hb⟩ := hJ
      subst ha hρ
      rw [List.getElem?_map] at hd
      obtain ⟨x, hx, e⟩ := Option.map_eq_some_iff.mp hd
      have hxn := List.mem_range.mp (List.mem_of_getElem? hx)
      subst e
      have hxi := range_at hx
      simp only [EV1, EV2, EV3, EV4, EV5, EV6, EV7, EV8, EV9, EV10, EV11, EV12, EV13, EV14, EV15, EV16, EV17, EV18, EV19, EV20, EV21, EV22, EV23, vals, List.replicate, Nat.reduceBEq, Nat.reduceAdd, Nat.reduceLT, Nat.reduceSub, Nat.reduceMul, Nat.reduceLeDiff, Nat.reduceEqDiff, OP1, OP2, draw_run (b := b') (g := g) (show 0 < 3 by decide) (show 3 < 10 ^ 40 by decide)]
      cases hq : decide (0 < b'.draw 3)
      · simp only [EV1, EV2, EV3, EV4, EV5, EV6, EV7, EV8, EV9, EV10, EV11, EV12, EV13, EV14, EV15, EV16, EV17, EV18, EV19, EV20, EV21, EV22, EV23, vals, List.replicate, Nat.reduceBEq, Nat.reduceAdd, Nat.reduceLT, Nat.reduceSub, Nat.reduceMul, Nat.reduceLeDiff, Nat.reduceEqDiff, OP1, OP2]
        exact ⟨xs, b'.nx 3, rfl, rfl, hl, fun y hy => Nat.lt_succ_of_lt (hb y hy)⟩
      · simp only [EV1, EV2, EV3, EV4, EV5, EV6, EV7, EV8, EV9, EV10, EV11, EV12, EV13, EV14, EV15, EV16, EV17, EV18, EV19, EV20, EV21, EV22, EV23, vals, List.replicate, Nat.reduceBEq, Nat.reduceAdd, Nat.reduceLT, Nat.reduceSub, Nat.reduceMul, Nat.reduceLeDiff, Nat.reduceEqDiff, OP1, OP2]
        refine ⟨xs ++ [x], b'.nx 3, by rw [addO_some, List.map_append]; rfl, rfl, asc_snoc hl (by rw [hxi]; exact hb), fun y hy => ?_⟩
        rcases List.mem_append.mp hy with hy | hy
        · exact Nat.lt_succ_of_lt (hb y hy)
        · rw [List.mem_singleton.mp hy, hxi]
          exact Nat.lt_succ_self i
    · obtain ⟨out, h0, xs, b', ha, hρ, hl, hb⟩ := hJ
      subst h0 ha hρ
      simp only [EV1, EV2, EV3, EV4, EV5, EV6, EV7, EV8, EV9, EV10, EV11, EV12, EV13, EV14, EV15, EV16, EV17, EV18, EV19, EV20, EV21, EV22, EV23, vals, List.replicate, Nat.reduceBEq, Nat.reduceAdd, Nat.reduceLT, Nat.reduceSub, Nat.reduceMul, Nat.reduceLeDiff, Nat.reduceEqDiff, OP1, OP2]
      exact ⟨(xs, b'), ⟨hl, fun y hy => by have := hb y hy; rw [List.length_map, List.length_range] at this; exact this⟩, rfl, rfl⟩
  obtain ⟨⟨xs, b'⟩, h, e⟩ := key
  exact ⟨xs, b', e, h⟩
end Nc
namespace Nc
open PySem PySem.Spec PyProof.Rows L2
theorem nodup_sub {α : Type} [DecidableEq α] : ∀ {xs ys : List α}, xs.Nodup → (∀ x ∈ xs, x ∈ ys) → xs.length ≤ ys.length
  | [], _, _, _ => Nat.zero_le _
  | x :: xs, ys, hn, h => by
    obtain ⟨h1, h2⟩ := List.nodup_cons.mp hn
    have hx := h x List.mem_cons_self
    have := nodup_sub (ys := ys.erase x) h2 fun y hy => (List.mem_erase_of_ne (fun e => h1 (by rw [← e]; exact hy))).mpr (h y (List.mem_cons_of_mem _ hy))
    rw [List.length_erase_of_mem hx] at this
    have := List.length_pos_of_mem hx
    simp only [List.length_cons]
    omega
theorem steps_len {n : Nat} {ls : List Nat} {ss : List (Nat × Nat × Nat)} (hs : StepsIn n ls ss) (hn : ss.Nodup) : ss.length ≤ ls.length * (n * n) := by
  have h := nodup_sub (ys := ls.flatMap fun c => (List.range n).flatMap fun i => (List.range n).map fun j => (i, c, j)) hn fun s h => by
    obtain ⟨h1, h2, h3⟩ := hs s h
    exact List.mem_flatMap.mpr ⟨s.2.1, h2, List.mem_flatMap.mpr ⟨s.1, List.mem_range.mpr h1, List.mem_map.mpr ⟨s.2.2, List.mem_range.mpr h3, rfl⟩⟩⟩
  refine Nat.le_trans h (flat_len (fun c => ?_) ls)
  refine Nat.le_trans (flat_len (m := n) (fun i => by rw [List.length_map, List.length_range]; exact Nat.le_refl _) _) ?_
  rw [List.length_range]
  exact Nat.le_refl _
theorem asc_len {n : Nat} {xs : List Nat} (h : xs.Nodup) (hb : ∀ x ∈ xs, x < n) : xs.length ≤ n := by
  have := nodup_sub (ys := List.range n) h fun x hx => List.mem_range.mpr (hb x hx)
  rwa [List.length_range] at this
/-- parts whose steps differ -/
theorem parts_nd {ls : List Nat} {n : Nat} {ss : List (Nat × Nat × Nat)} {first last : List Nat} (l : isLet ls = true) (n1 : 1 ≤ n) (n2 : n ≤ 12) (st : StepsIn n ls ss) (nd : ss.Nodup) (fn : first.Nodup) (fi : ∀ x ∈ first, x < n) (ln : last.Nodup) (li : ∀ x ∈ last, x < n) : PartsOk ls n ss first last := by
  have hlen := isLet_len l
  refine ⟨l, n1, n2, st, fi, li, ?_, ?_, ?_, fun c i => ?_⟩
  · have h1 := steps_len st nd
    have h2 : ls.length * (n * n) ≤ 4 * (12 * 12) := Nat.mul_le_mul hlen.2 (Nat.mul_le_mul n2 n2)
    omega
  · have := asc_len fn fi
    omega
  · have := asc_len ln li
    omega
  · have : (rowL (stepP ss c) i).length ≤ n := by
      refine asc_len ?_ fun x hx => ?_
      · unfold rowL
        refine nodup_map (fun a ha b hb e => ?_) (List.Pairwise.filter _ ?_)
        · have h1 := of_decide_eq_true (List.mem_filter.mp ha).2
          have h2 := of_decide_eq_true (List.mem_filter.mp hb).2
          exact Prod.ext (h1.trans h2.symm) e
        · refine nodup_map (fun a ha b hb e => ?_) (List.Pairwise.filter _ nd)
          have h1 := of_decide_eq_true (List.mem_filter.mp ha).2
          have h2 := of_decide_eq_true (List.mem_filter.mp hb).2
          have e1 := congrArg Prod.fst e
          have e2 := congrArg Prod.snd e
          exact Prod.ext e1 (Prod.ext (h1.trans h2.symm) e2)
      · unfold rowL at hx
        obtain ⟨q, hq, rfl⟩ := List.mem_map.mp hx
        obtain ⟨i', j'⟩ := q
        exact (st _ (stepP_mem.mp (List.mem_filter.mp hq).1)).2.2
    omega
theorem Plan.Can.parts {p : Plan} (h : p.Can) : PartsOk p.ls p.n p.ss p.first p.last := parts_nd h.l h.n1 h.n2 h.st (sortS_nodup h.so) h.fa.nodupN h.fi h.la.nodupN h.li
theorem Plan.Can.rok {p : Plan} (h : p.Can) : ROk (ruleOf p) := mkR_ok h.parts
end Nc
namespace Nc
open PySem PySem.Spec PyProof.Rows L2
/-- a text and its relation -/
abbrev En := List Nat × List Nat
def ex1 (st : List Nat → Nat → List Nat) (a : En) : List Nat → List En → List En
  | [], R => R
  | c :: cs, R => ex1 st a cs (if st a.2 c ∈ R.map (·.2) then R else R ++ [(a.1 ++ [c], st a.2 c)])
section
variable {st : List Nat → Nat → List Nat} {ls : List Nat} {e0 : En} {cap : Nat}
theorem ex1_spec {a : En} : ∀ (cs : List Nat) (R : List En), ∃ new, ex1 st a cs R = R ++ new ∧ new.length ≤ cs.length ∧ (∀ n ∈ new, ∃ c ∈ cs, n = (a.1 ++ [c], st a.2 c)) ∧ ((R.map (·.2)).Nodup → ((R ++ new).map (·.2)).Nodup) ∧ ∀ c ∈ cs, st a.2 c ∈ (R ++ new).map (·.2)
  | [], R => ⟨[], by rw [List.append_nil]; rfl, Nat.le_refl _, fun n h => absurd h List.not_mem_nil, fun h => by rw [List.append_nil]; exact h, fun c h => absurd h List.not_mem_nil⟩
  | c :: cs, R => by
    by_cases h : st a.2 c ∈ R.map (·.2)
    · obtain ⟨new, e1, e0, e2, e3, e4⟩ := ex1_spec (a := a) cs R
      refine ⟨new, by simp only [ex1]; rw [if_pos h, e1], Nat.le_succ_of_le e0, fun n hn => ?_, e3, fun d hd => ?_⟩
      · obtain ⟨d, hd, e⟩ := e2 n hn
        exact ⟨d, List.mem_cons_of_mem _ hd, e⟩
      · rcases List.mem_cons.mp hd with rfl | hd
        · rw [List.map_append]
          exact List.mem_append_left _ h
        · exact e4 d hd
    · obtain ⟨new, e1, e0, e2, e3, e4⟩ := ex1_spec (a := a) cs (R ++ [(a.1 ++ [c], st a.2 c)])
      rw [List.append_assoc] at e1 e3 e4
      refine ⟨(a.1 ++ [c], st a.2 c) :: new, by simp only [ex1]; rw [if_neg h, e1]; rfl, Nat.succ_le_succ e0, fun n hn => ?_, fun hn => e3 ?_, fun d hd => ?_⟩
      · rcases List.mem_cons.mp hn with rfl | hn
        · exact ⟨c, List.mem_cons_self, rfl⟩
        · obtain ⟨d, hd, e⟩ := e2 n hn
          exact ⟨d, List.mem_cons_of_mem _ hd, e⟩
      · rw [List.map_append]
        refine List.nodup_append.mpr ⟨hn, List.nodup_cons.mpr ⟨List.not_mem_nil, List.nodup_nil⟩, fun x hx y hy e => ?_⟩
        have hy : y = st a.2 c := List.mem_singleton.mp hy
        exact h (by rw [← hy, ← e]; exact hx)
      · rcases List.mem_cons.mp hd with rfl | hd
        · rw [List.map_append]
          exact List.mem_append_right _ List.mem_cons_self
        · exact e4 d hd
structure CInv (st : List Nat → Nat → List Nat) (ls : List Nat) (x0 : List Nat) (R : List En) (i : Nat) : Prop where
  nd : (R.map (·.2)).Nodup
  re : ∀ e ∈ R, e.1 ≠ [] ∧ (∀ c ∈ e.1, c ∈ ls) ∧ e.2 = e.1.foldl st x0
  len : ∀ (k : Nat) (e : En), (([], x0) :: R)[k]? = some e → e.1.length ≤ k
  done : ∀ (k : Nat) (e : En), k < i → (([], x0) :: R)[k]? = some e → ∀ c ∈ ls, st e.2 c ∈ R.map (·.2)
  atl : i ≤ R.length + 1
variable {x0 : List Nat} {R : List En} {i : Nat}
theorem CInv.start : CInv st ls x0 [] 0 where
  nd := List.nodup_nil
  re := fun e h => absurd h List.not_mem_nil
  len := fun k e h => by
    rw [List.mem_singleton.mp (List.mem_of_getElem? h)]
    exact Nat.zero_le _
  done := fun k e h => absurd h (Nat.not_lt_zero _)
  atl := Nat.zero_le _
theorem CInv.row (h : CInv st ls x0 R i) {a : En} (ha : (([], x0) :: R)[i]? = some a) : (∀ c ∈ a.1, c ∈ ls) ∧ a.2 = a.1.foldl st x0 := by
  rcases List.mem_cons.mp (List.mem_of_getElem? ha) with e | q
  · rw [e]
    exact ⟨fun c h => absurd h List.not_mem_nil, rfl⟩
  · exact ⟨(h.re a q).2.1, (h.re a q).2.2⟩
theorem CInv.step (h : CInv st ls x0 R i) {a : En} (ha : (([], x0) :: R)[i]? = some a) : CInv st ls x0 (ex1 st a ls R) (i + 1) := by
  obtain ⟨new, e1, e0, e2, e3, e4⟩ := ex1_spec (st := st) (a := a) ls R
  obtain ⟨r1, r2⟩ := h.row ha
  have hi := (List.getElem?_eq_some_iff.mp ha).1
  rw [List.length_cons] at hi
  have old : ∀ (k : Nat) (e : En), k < R.length + 1 → (([], x0) :: (R ++ new))[k]? = some e → (([], x0) :: R)[k]? = some e := fun k e hk q => by
    rw [← List.cons_append, List.getElem?_append_left (by rw [List.length_cons]; exact hk)] at q
    exact q
  rw [e1]
  refine ⟨e3 h.nd, fun e he => ?_, fun k e hk => ?_, fun k e hk he c hc => ?_, by rw [List.length_append]; omega⟩
  · rcases List.mem_append.mp he with q | q
    · exact h.re e q
    · obtain ⟨c, hc, rfl⟩ := e2 e q
      refine ⟨by simp, fun d hd => ?_, by show _ = (a.1 ++ [c]).foldl st x0; rw [List.foldl_append, ← r2]; rfl⟩
      rcases List.mem_append.mp hd with q | q
      · exact r1 d q
      · rw [List.mem_singleton.mp q]
        exact hc
  · by_cases q : k < R.length + 1
    · exact h.len k e (old k e q hk)
    · rw [← List.cons_append, List.getElem?_append_right (by rw [List.length_cons]; omega)] at hk
      obtain ⟨c, _, rfl⟩ := e2 e (List.mem_of_getElem? hk)
      have := h.len i a ha
      show (a.1 ++ [c]).length ≤ k
      rw [List.length_append]
      show a.1.length + 1 ≤ k
      omega
  · by_cases q : k < i
    · have := h.done k e q (old k e (by omega) he) c hc
      rw [List.map_append]
      exact List.mem_append_left _ this
    · have ek : k = i := by omega
      subst ek
      have := old k e hi he
      rw [ha] at this
      cases this
      exact e4 c hc
/-- all relations are there -/
theorem CInv.all (h : CInv st ls x0 R (R.length + 1)) : ∀ {t : List Nat}, t ≠ [] → (∀ c ∈ t, c ∈ ls) → t.foldl st x0 ∈ R.map (·.2) := by
  have one : ∀ x, x ∈ x0 :: R.map (·.2) → ∀ c ∈ ls, st x c ∈ R.map (·.2) := fun x hx c hc => by
    have hx : x ∈ (([], x0) :: R).map (·.2) := hx
    obtain ⟨e, he, rfl⟩ := List.mem_map.mp hx
    obtain ⟨k, hk⟩ := List.getElem?_of_mem he
    have := (List.getElem?_eq_some_iff.mp hk).1
    exact h.done k e (by rw [List.length_cons] at this; omega) hk c hc
  have key : ∀ (t : List Nat) (x : List Nat), x ∈ x0 :: R.map (·.2) → t ≠ [] → (∀ c ∈ t, c ∈ ls) → t.foldl st x ∈ R.map (·.2) := by
    intro t
    induction t with
    | nil => exact fun x _ h => absurd rfl h
    | cons c t ih =>
      intro x hx _ hc
      have h1 := one x hx c (hc c List.mem_cons_self)
      by_cases ht : t = []
      · subst ht
        exact h1
      · exact ih _ (List.mem_cons_of_mem _ h1) ht fun d hd => hc d (List.mem_cons_of_mem _ hd)
  exact fun {t} => key t x0 List.mem_cons_self
end
end Nc
namespace Nc.Per
open Classical
end Nc.Per
namespace Nc.Per
open Classical
end Nc.Per
namespace Nc.Per
open Classical
/-- the greatest product of different numbers up to m, their sum up to s -/
def mp : Nat → Nat → Nat
  | 0, _ => 1
  | m + 1, s => if m + 1 ≤ s then max (mp m s) ((m + 1) * mp m (s - (m + 1))) else mp m s
end Nc.Per
namespace Nc.Per
open Classical
end Nc.Per
namespace Nc
open PySem PySem.Spec PyProof.Rows L2
end Nc
namespace Nc
open PySem PySem.Spec PyProof.Rows L2
def SatD {α : Type} (r : Rs α) (Q : α → Rho → Prop) (X : Xn → Rho → Prop) : Prop := match r with
  | .ok a ρ => Q a ρ
  | .ex e ρ => X e ρ
  | .no => False
section
variable {α β : Type} {r : Rs α} {a : α} {ρ : Rho} {f : α → Rho → Rs β} {P : α → Rho → Prop} {Q : β → Rho → Prop} {X Y : Xn → Rho → Prop} {e : Xn}
theorem SatD.of (h : Sat r P) : SatD r P X := by
  cases r with
  | no => exact h.elim
  | ex e ρ => exact h.elim
  | ok a ρ => exact h
theorem SatD.step (h : r = .ok a ρ) (k : SatD (f a ρ) Q X) : SatD (r.bnd f) Q X := by rw [h]; exact k
theorem SatD.imp {P' : α → Rho → Prop} (h : SatD r P X) (k : ∀ a ρ, P a ρ → P' a ρ) (l : ∀ e ρ, X e ρ → Y e ρ) : SatD r P' Y := by
  cases r with
  | no => exact h.elim
  | ex e ρ => exact l e ρ h
  | ok a ρ => exact k a ρ h
theorem SatD.get (h : SatD r P X) : (∃ a ρ, r = .ok a ρ ∧ P a ρ) ∨ ∃ e ρ, r = .ex e ρ ∧ X e ρ := by
  cases r with
  | no => exact h.elim
  | ex e ρ => exact .inr ⟨e, ρ, rfl, h⟩
  | ok a ρ => exact .inl ⟨a, ρ, rfl, h⟩
end
end Nc
namespace Nc
open PySem PySem.Spec PyProof.Rows L2
abbrev Rw := Nat × List Nat
def exp1 (img : Nat → Nat → Nat) (row : Nat) (t : List Nat) : List Nat → List Rw → List Rw
  | [], rows => rows
  | c :: cs, rows => exp1 img row t cs (if img c row ∈ rows.map (·.1) then rows else rows ++ [(img c row, t ++ [c])])
def reachN (img : Nat → Nat → Nat) (fb : Nat) (t : List Nat) : Nat := t.foldl (fun b c => img c b) fb
theorem reach_snoc {img : Nat → Nat → Nat} {fb : Nat} {t : List Nat} {c : Nat} : reachN img fb (t ++ [c]) = img c (reachN img fb t) := by
  unfold reachN
  rw [List.foldl_append]
  rfl
theorem exp1_spec {img : Nat → Nat → Nat} {row : Nat} {t : List Nat} : ∀ (cs : List Nat) (rows : List Rw), ∃ new, exp1 img row t cs rows = rows ++ new ∧ (∀ n ∈ new, ∃ c ∈ cs, n = (img c row, t ++ [c])) ∧ ((rows.map (·.1)).Nodup → ((rows ++ new).map (·.1)).Nodup) ∧ ∀ c ∈ cs, img c row ∈ (rows ++ new).map (·.1)
  | [], rows => ⟨[], by rw [List.append_nil]; rfl, fun n h => absurd h List.not_mem_nil, fun h => by rw [List.append_nil]; exact h, fun c h => absurd h List.not_mem_nil⟩
  | c :: cs, rows => by
    by_cases h : img c row ∈ rows.map (·.1)
    · obtain ⟨new, e1, e2, e3, e4⟩ := exp1_spec cs rows
      refine ⟨new, by simp only [exp1]; rw [if_pos h, e1], fun n hn => ?_, e3, fun d hd => ?_⟩
      · obtain ⟨d, hd, e⟩ := e2 n hn
        exact ⟨d, List.mem_cons_of_mem _ hd, e⟩
      · rcases List.mem_cons.mp hd with rfl | hd
        · rw [List.map_append]
          exact List.mem_append_left _ h
        · exact e4 d hd
    · obtain ⟨new, e1, e2, e3, e4⟩ := exp1_spec cs (rows ++ [(img c row, t ++ [c])])
      rw [List.append_assoc] at e1 e3 e4
      refine ⟨(img c row, t ++ [c]) :: new, by simp only [exp1]; rw [if_neg h, e1]; rfl, fun n hn => ?_, fun hn => e3 ?_, fun d hd => ?_⟩
      · rcases List.mem_cons.mp hn with rfl | hn
        · exact ⟨c, List.mem_cons_self, rfl⟩
        · obtain ⟨d, hd, e⟩ := e2 n hn
          exact ⟨d, List.mem_cons_of_mem _ hd, e⟩
      · rw [List.map_append]
        refine List.nodup_append.mpr ⟨hn, List.nodup_cons.mpr ⟨List.not_mem_nil, List.nodup_nil⟩, fun a ha b hb e => ?_⟩
        have hb : b = img c row := List.mem_singleton.mp hb
        exact h (by rw [← hb, ← e]; exact ha)
      · rcases List.mem_cons.mp hd with rfl | hd
        · rw [List.map_append]
          exact List.mem_append_right _ List.mem_cons_self
        · exact e4 d hd
structure BInv (img : Nat → Nat → Nat) (fb goal : Nat) (ls : List Nat) (rows : List Rw) (at_ : Nat) : Prop where
  nd : (rows.map (·.1)).Nodup
  bd : ∀ r ∈ rows, r.1 < 2 ^ 12
  re : ∀ r ∈ rows, r.1 = reachN img fb r.2 ∧ ∀ c ∈ r.2, c ∈ ls
  mono : ∀ (i j : Nat) (ri rj : Rw), i ≤ j → rows[i]? = some ri → rows[j]? = some rj → ri.2.length ≤ rj.2.length
  top : ∀ r ∈ rows, ∀ a, rows[at_]? = some a → r.2.length ≤ a.2.length + 1
  done : ∀ (i : Nat) (r : Rw), i < at_ → rows[i]? = some r → r.1 &&& goal ≠ 0 ∧ ∀ c ∈ ls, ∃ (k : Nat) (s : Rw), rows[k]? = some s ∧ s.1 = img c r.1 ∧ s.2.length ≤ r.2.length + 1
  zero : rows[0]? = some (fb, [])
  atl : at_ ≤ rows.length
  len : ∀ (i : Nat) (r : Rw), rows[i]? = some r → r.2.length ≤ i
theorem BInv.start {img : Nat → Nat → Nat} {fb goal : Nat} {ls : List Nat} (h : fb < 2 ^ 12) : BInv img fb goal ls [(fb, [])] 0 where
  nd := List.nodup_cons.mpr ⟨List.not_mem_nil, List.nodup_nil⟩
  bd := fun r hr => by rw [List.mem_singleton.mp hr]; exact h
  re := fun r hr => by rw [List.mem_singleton.mp hr]; exact ⟨rfl, fun c h => absurd h List.not_mem_nil⟩
  mono := fun i j ri rj _ h1 h2 => by
    rw [List.mem_singleton.mp (List.mem_of_getElem? h1)]
    exact Nat.zero_le _
  top := fun r hr a _ => by rw [List.mem_singleton.mp hr]; exact Nat.zero_le _
  done := fun i r h => absurd h (Nat.not_lt_zero _)
  zero := rfl
  atl := Nat.zero_le _
  len := fun i r h => by rw [List.mem_singleton.mp (List.mem_of_getElem? h)]; exact Nat.zero_le _
theorem BInv.step {img : Nat → Nat → Nat} {fb goal : Nat} {ls : List Nat} {rows : List Rw} {at_ : Nat} {a : Rw} (hi : ∀ c ∈ ls, ∀ b, b < 2 ^ 12 → img c b < 2 ^ 12) (h : BInv img fb goal ls rows at_) (ha : rows[at_]? = some a) (hg : a.1 &&& goal ≠ 0) : BInv img fb goal ls (exp1 img a.1 a.2 ls rows) (at_ + 1) := by
  obtain ⟨new, e1, e2, e3, e4⟩ := exp1_spec (img := img) (row := a.1) (t := a.2) ls rows
  have hlt := (List.getElem?_eq_some_iff.mp ha).1
  have ham := List.mem_of_getElem? ha
  obtain ⟨ra1, ra2⟩ := h.re a ham
  have hnew : ∀ n ∈ new, n.2.length = a.2.length + 1 := fun n hn => by
    obtain ⟨c, _, rfl⟩ := e2 n hn
    exact List.length_append
  have old : ∀ (i : Nat) (r : Rw), i < rows.length → (rows ++ new)[i]? = some r → rows[i]? = some r := fun i r hi e => by
    rwa [List.getElem?_append_left hi] at e
  have nw : ∀ (i : Nat) (r : Rw), rows.length ≤ i → (rows ++ new)[i]? = some r → r ∈ new := fun i r hi e => by
    rw [List.getElem?_append_right hi] at e
    exact List.mem_of_getElem? e
  have keep : ∀ (i : Nat) (r : Rw), rows[i]? = some r → (rows ++ new)[i]? = some r := fun i r e => by
    rwa [List.getElem?_append_left (List.getElem?_eq_some_iff.mp e).1]
  have mono' : ∀ (i j : Nat) (ri rj : Rw), i ≤ j → (rows ++ new)[i]? = some ri → (rows ++ new)[j]? = some rj → ri.2.length ≤ rj.2.length := fun i j ri rj hij h1 h2 => by
    by_cases hj : j < rows.length
    · exact h.mono i j ri rj hij (old i ri (by omega) h1) (old j rj hj h2)
    · rw [hnew rj (nw j rj (by omega) h2)]
      by_cases hi' : i < rows.length
      · exact h.top ri (List.mem_of_getElem? (old i ri hi' h1)) a ha
      · rw [hnew ri (nw i ri (by omega) h1)]
        exact Nat.le_refl _
  rw [e1]
  refine ⟨e3 h.nd, fun r hr => ?_, fun r hr => ?_, mono', fun r hr b hb => ?_, fun i r hi' hr => ?_, keep _ _ h.zero, by rw [List.length_append]; omega, fun i r hr => ?_⟩
  · rcases List.mem_append.mp hr with q | q
    · exact h.bd r q
    · obtain ⟨c, hc, rfl⟩ := e2 r q
      exact hi c hc _ (h.bd a ham)
  · rcases List.mem_append.mp hr with q | q
    · exact h.re r q
    · obtain ⟨c, hc, rfl⟩ := e2 r q
      refine ⟨by show _ = reachN img fb (a.2 ++ [c]); rw [reach_snoc, ← ra1], fun d hd => ?_⟩
      rcases List.mem_append.mp hd with q | q
      · exact ra2 d q
      · rw [List.mem_singleton.mp q]
        exact hc
  · have hb2 := mono' at_ (at_ + 1) a b (Nat.le_succ _) (keep _ _ ha) hb
    have : r.2.length ≤ a.2.length + 1 := by
      rcases List.mem_append.mp hr with q | q
      · exact h.top r q a ha
      · rw [hnew r q]
        exact Nat.le_refl _
    omega
  · by_cases q : i < at_
    · obtain ⟨d1, d2⟩ := h.done i r q (old i r (by omega) hr)
      refine ⟨d1, fun c hc => ?_⟩
      obtain ⟨k, s, k1, k2, k3⟩ := d2 c hc
      exact ⟨k, s, keep _ _ k1, k2, k3⟩
    · have ei : i = at_ := by omega
      subst ei
      have := old i r hlt hr
      rw [ha] at this
      cases this
      refine ⟨hg, fun c hc => ?_⟩
      obtain ⟨s, hs, es⟩ := List.mem_map.mp (e4 c hc)
      obtain ⟨k, hk⟩ := List.getElem?_of_mem hs
      refine ⟨k, s, hk, es, ?_⟩
      rcases List.mem_append.mp hs with q | q
      · exact h.top s q a ha
      · rw [hnew s q]
        exact Nat.le_refl _
  · by_cases q : i < rows.length
    · exact h.len i r (old i r q hr)
    · rw [hnew r (nw i r (by omega) hr)]
      have := h.len at_ a ha
      omega
end Nc
namespace Nc
open PySem PySem.Spec PyProof.Rows L2
end Nc
namespace Nc
open PySem PySem.Spec PyProof.Rows L2
section
variable {T : Nat → Addr} {p q : Plan} {g : Cells}
theorem mk_run {ls : List Nat} {n : Nat} {ss : List (Nat × Nat × Nat)} {first last : List Nat} (h : PartsOk ls n ss first last) (l : List (Option Slot)) (g : Cells) : mkK (T 0) (F_Rule___init__ T) [dS ls, dN n, .lst (ss.map dStep), .lst (first.map dN), .lst (last.map dN)] ⟨l, g⟩ = .ok (oRule (T 0) (mkR ls n ss first last)) ⟨l, g⟩ := mk_ok (init_run h rfl (.inl rfl) (.inl rfl)) (noP_rule _)
theorem mk_can (h : p.Can) (l : List (Option Slot)) (g : Cells) : mkK (T 0) (F_Rule___init__ T) [dS p.ls, dN p.n, .lst (p.ss.map dStep), .lst (p.first.map dN), .lst (p.last.map dN)] ⟨l, g⟩ = .ok (oRule (T 0) (ruleOf p)) ⟨l, g⟩ := mk_run h.parts l g
theorem made_can (h : p.Can) : F_law_made T [dPlan p] g = .ok (dRule (T 0) (ruleOf p)) g := by
  apply run_sat rfl rfl
  simp only [EV1, EV2, EV3, EV4, EV5, EV6, EV7, EV8, EV9, EV10, EV11, EV12, EV13, EV14, EV15, EV16, EV17, EV18, EV19, EV20, EV21, EV22, EV23, vals, List.replicate, Nat.reduceBEq, Nat.reduceAdd, Nat.reduceLT, Nat.reduceSub, Nat.reduceMul, Nat.reduceLeDiff, Nat.reduceEqDiff, OP1, OP2, h_law_made, mk_can h, RU1, RU2]
  exact ⟨rfl, rfl⟩
end
end Nc
namespace Nc
open PySem PySem.Spec PyProof.Rows L2
end Nc
set_option maxHeartbeats 8000000
namespace Nc
open PySem PySem.Spec PyProof.Rows L2
theorem isLet_small {ls : List Nat} (h : isLet ls = true) : ∀ c ∈ ls, c ∈ small := by
  unfold isLet at h
  simp only [Bool.and_eq_true] at h
  intro c hc
  have h2 := h.1.2
  rw [List.all_eq_true] at h2
  exact of_decide_eq_true (h2 _ (List.mem_map.mpr ⟨c, hc, rfl⟩))
theorem str0 : (("" : String) : Str) = strN [] := by decide +kernel
/-- what is told of an error with a field -/
theorem tell_1 {T : Nat → Addr} {Cs : List Addr} {n : Nat} {f code : Str} {d : D} {l : List (Option Slot)} {ρ : Rho} (hC : T n ∈ Cs) (h : (code ∈ g1 ∧ f = "at") ∨ (code ∉ g1 ∧ code ∈ g2 ∧ f = "given") ∨ (code ∉ g1 ∧ code ∉ g2 ∧ code ∈ g3 ∧ f = "name") ∨ (code ∉ g1 ∧ code ∉ g2 ∧ code ∉ g3 ∧ code ∈ g4 ∧ f = "bound") ∨ (code ∉ g1 ∧ code ∉ g2 ∧ code ∉ g3 ∧ code ∉ g4 ∧ code = "NotFull" ∧ f = "lacking")) (hno : noOwn l = true) :
    tellR Cs F_law_field l (.ex (xnOf T n f code d) ρ) = .ok (.tup [.str "no", .str code, d]) ⟨l, ρ.g⟩ :=
  tellR_ex (e := xnOf T n f code d) hC (by simp) (tells1 rfl rfl h) hno
theorem rep_ln {a : List D} {k : Nat} (h : a.length * k < 100000) (h2 : k < 1000) : repO (.lst a) (dN k) = some (.lst (List.replicate k a).flatten) := by
  have c : (decide (-(2 ^ 63) ≤ (k : Int)) && decide ((k : Int) < 2 ^ 63) && decide (a.length * (k : Int).toNat ≤ sizeLine)) = true := by
    rw [Int.toNat_natCast, decide_eq_true (show -(2 ^ 63) ≤ (k : Int) by omega), decide_eq_true (show (k : Int) < 2 ^ 63 by omega), decide_eq_true (le_size h)]
    rfl
  simp only [repO]
  rw [if_pos c, Int.toNat_natCast]
theorem getT {α : Type} {l : List α} {k i : Nat} {a : α} {x : α} (h : i < k) (hk : k ≤ l.length) (e : (l.take k ++ [a] ++ l.drop k)[i]? = some x) : l[i]? = some x := by
  rw [List.append_assoc, List.getElem?_append_left (by rw [List.length_take]; omega), List.getElem?_take_of_lt h] at e
  exact e
theorem getA {α : Type} {l : List α} {k : Nat} {a : α} (hk : k ≤ l.length) : (l.take k ++ [a] ++ l.drop k)[k]? = some a := by
  have e : (l.take k).length = k := by rw [List.length_take]; omega
  rw [List.append_assoc, List.getElem?_append_right (by omega), e, Nat.sub_self]
  rfl
end Nc
namespace Nc
open PySem PySem.Spec PyProof.Rows L2
theorem stepP_snoc {ss : List (Nat × Nat × Nat)} {s : Nat × Nat × Nat} {c : Nat} : stepP (ss ++ [s]) c = stepP ss c ++ (if s.2.1 = c then [(s.1, s.2.2)] else []) := by
  unfold stepP
  rw [List.filter_append, List.map_append]
  congr 1
  by_cases h : s.2.1 = c
  · rw [if_pos h, List.filter_cons_of_pos (p := fun s : Nat × Nat × Nat => decide (s.2.1 = c)) (decide_eq_true h)]
    rfl
  · rw [if_neg h, List.filter_cons_of_neg (p := fun s : Nat × Nat × Nat => decide (s.2.1 = c)) (by rw [decide_eq_false h]; decide)]
    rfl
abbrev RLr (p : Plan) (c : Nat) (ps : List (Nat × Nat)) (x3 x4 x5 : Option Slot) (g : Cells) : Rho := ⟨[vD (dPlan p), vD (dC c), some (.own (.lst ((List.range p.n).map fun r => dN (rowO ps r)))), x3, x4, x5], g⟩
theorem letter_rel_run {p : Plan} {c : Nat} {g : Cells} (hp : p.Can) : F_law_letter_rel [dPlan p, dC c] g = .ok (dRel ((ruleOf p).rel c)) g := by
  have hn2 := hp.n2
  have e0 : repO (.lst [dN 0]) (dN p.n) = some (.lst ((List.range p.n).map fun r => dN (rowO (stepP (p.ss.take 0) c) r))) := by
    rw [rep_ln (show 1 * p.n < 100000 by omega) (show p.n < 1000 by omega)]
    congr 2
    apply List.ext_getElem?
    intro i
    rw [List.flatten_replicate_singleton, List.getElem?_map, List.getElem?_replicate]
    by_cases hi : i < p.n
    · rw [if_pos hi, List.getElem?_range hi]
      rfl
    · rw [if_neg hi, List.getElem?_eq_none (by simp; omega)]
      rfl
  apply run_sat rfl rfl
  simp only [EV1, EV2, EV3, EV4, EV5, EV6, EV7, EV8, EV9, EV10, EV11, EV12, EV13, EV14, EV15, EV16, EV17, EV18, EV19, EV20, EV21, EV22, EV23, vals, List.replicate, Nat.reduceBEq, Nat.reduceAdd, Nat.reduceLT, Nat.reduceSub, Nat.reduceMul, Nat.reduceLeDiff, Nat.reduceEqDiff, OP1, OP2, h_law_letter_rel, e0]
  refine' Sat.stepI (loop_satJ (fun i ρ => ∃ (x3 x4 x5 : Option Slot), ρ = RLr p c (stepP (p.ss.take i) c) x3 x4 x5 g) (by exact ⟨none, none, none, rfl⟩) (fun i d ρ hd hJ => ?_)) (fun o ρ hJ => ?_)
  · obtain ⟨x3, x4, x5, hρ⟩ := hJ
    subst hρ
    have hd2 := getMap hd
    cases hd2 with | intro s hd2 => ?_
    cases hd2 with | intro hs e => ?_
    subst e
    obtain ⟨h1, h2, h3⟩ := hp.st s (List.mem_of_getElem? hs)
    have tk : p.ss.take (i + 1) = p.ss.take i ++ [s] := by rw [List.take_add_one, hs]; rfl
    rw [tk, stepP_snoc]
    generalize stepP (p.ss.take i) c = ps
    simp only [EV1, EV2, EV3, EV4, EV5, EV6, EV7, EV8, EV9, EV10, EV11, EV12, EV13, EV14, EV15, EV16, EV17, EV18, EV19, EV20, EV21, EV22, EV23, vals, List.replicate, Nat.reduceBEq, Nat.reduceAdd, Nat.reduceLT, Nat.reduceSub, Nat.reduceMul, Nat.reduceLeDiff, Nat.reduceEqDiff, OP1, OP2, eq_cc]
    by_cases hc : s.2.1 = c
    · rw [if_pos hc]
      have ex : ((List.range p.n).map fun r => dN (rowO ps r))[s.1]? = some (dN (rowO ps s.1)) := by
        rw [List.getElem?_map, List.getElem?_range h1]
        rfl
      have en : ((List.range p.n).map fun r => dN (rowO ps r)).set s.1 (dN (rowO ps s.1 ||| 2 ^ s.2.2)) = (List.range p.n).map fun r => dN (rowO (ps ++ [(s.1, s.2.2)]) r) := by
        have := set_range (n := p.n) (k := s.1) (g := fun r => dN (rowO ps r)) (g' := fun r => dN (rowO (ps ++ [(s.1, s.2.2)]) r)) (fun r hr => by
          show dN _ = dN _
          rw [rowO_snoc, if_neg (Ne.symm hr)])
        have eq : rowO ps s.1 ||| 2 ^ s.2.2 = rowO (ps ++ [(s.1, s.2.2)]) s.1 := by
          rw [rowO_snoc, if_pos rfl]
        rw [eq]
        exact this
      simp only [EV1, EV2, EV3, EV4, EV5, EV6, EV7, EV8, EV9, EV10, EV11, EV12, EV13, EV14, EV15, EV16, EV17, EV18, EV19, EV20, EV21, EV22, EV23, vals, List.replicate, Nat.reduceBEq, Nat.reduceAdd, Nat.reduceLT, Nat.reduceSub, Nat.reduceMul, Nat.reduceLeDiff, Nat.reduceEqDiff, OP1, OP2, decide_eq_true hc, ex, shl_nn (show s.2.2 < 1000000 by omega) (show 1 < 10 ^ 18 by decide), Nat.one_mul, setIx_n (show s.1 < ((List.range p.n).map fun r => dN (rowO ps r)).length by simpa using h1), en]
      refine ⟨rfl, ?_⟩
      exact ⟨vN s.1, vD (dC s.2.1), vN s.2.2, Eq.refl _⟩
    · rw [if_neg hc, List.append_nil]
      simp only [EV1, EV2, EV3, EV4, EV5, EV6, EV7, EV8, EV9, EV10, EV11, EV12, EV13, EV14, EV15, EV16, EV17, EV18, EV19, EV20, EV21, EV22, EV23, vals, List.replicate, Nat.reduceBEq, Nat.reduceAdd, Nat.reduceLT, Nat.reduceSub, Nat.reduceMul, Nat.reduceLeDiff, Nat.reduceEqDiff, OP1, OP2, decide_eq_false hc]
      refine ⟨rfl, ?_⟩
      exact ⟨vN s.1, vD (dC s.2.1), vN s.2.2, Eq.refl _⟩
  · obtain ⟨h0, x3, x4, x5, hρ⟩ := hJ
    rw [List.length_map, List.take_length] at hρ
    subst h0 hρ
    simp only [EV1, EV2, EV3, EV4, EV5, EV6, EV7, EV8, EV9, EV10, EV11, EV12, EV13, EV14, EV15, EV16, EV17, EV18, EV19, EV20, EV21, EV22, EV23, vals, List.replicate, Nat.reduceBEq, Nat.reduceAdd, Nat.reduceLT, Nat.reduceSub, Nat.reduceMul, Nat.reduceLeDiff, Nat.reduceEqDiff, OP1, OP2]
    refine ⟨?_, rfl⟩
    have e1 : (ruleOf p).rel c = relO p.n (stepP p.ss c) := (rel_OS fun i j _ => Iff.rfl).symm
    rw [e1]
    unfold relO
    show _ = Out.rt (D.tup (((List.range p.n).map (rowO (stepP p.ss c))).map dN))
    rw [List.map_map]
    rfl
end Nc
namespace Nc
open PySem PySem.Spec PyProof.Rows L2
end Nc
namespace Nc
open PySem PySem.Spec PyProof.Rows L2
end Nc
namespace Nc
open PySem PySem.Spec PyProof.Rows L2
end Nc
namespace Nc
open PySem PySem.Spec PyProof.Rows L2
end Nc
namespace Nc
open PySem PySem.Spec PyProof.Rows L2
section
variable {ρ : Rho} {as : M (List D)} {dd ds : List D}
def apK (dd ds : List D) (ρ : Rho) : Rs (List D) := .ok (ds ++ dd) ρ
theorem apK_r : apK dd ds ρ = .ok (ds ++ dd) ρ := Eq.trans (Eq.refl _) (Eq.refl _)
theorem ap_r : apM as dd ρ = (as ρ).bnd (apK dd) := by
  unfold apM
  rw [bind_r]
  rfl
end
def EV30 := And.intro @apK_r @ap_r
end Nc
namespace Nc
open PySem PySem.Spec PyProof.Rows L2
end Nc
namespace Nc
open PySem PySem.Spec PyProof.Rows L2
def relT (r : RuleN) (cs : List Nat) : List Nat := cs.foldl (fun a c => chainN a (r.rel c)) (idN r.n)
section
variable {T : Nat → Addr} {r : RuleN} {g : Cells}
theorem relFrom_len : ∀ (cs : List Nat) (a : List Nat), (cs.foldl (fun a c => chainN a (r.rel c)) a).length = a.length
  | [], a => rfl
  | c :: cs, a => by rw [List.foldl_cons, relFrom_len cs, chain_len]
theorem relT_len {cs : List Nat} : (relT r cs).length = r.n := by
  unfold relT
  rw [relFrom_len, id_len]
theorem relT_snoc {cs : List Nat} {c : Nat} : relT r (cs ++ [c]) = chainN (relT r cs) (r.rel c) := by
  unfold relT
  rw [List.foldl_append]
  rfl
theorem relT_rel (hr : ROk r) : ∀ {cs : List Nat}, (∀ c ∈ cs, c ∈ r.ls) → IsRel r.n (relT r cs) := by
  have key : ∀ (cs : List Nat) (a : List Nat), (∀ c ∈ cs, c ∈ r.ls) → IsRel r.n a → IsRel r.n (cs.foldl (fun a c => chainN a (r.rel c)) a) := by
    intro cs
    induction cs with
    | nil => exact fun a _ h => h
    | cons c cs ih =>
      intro a hc ha
      exact ih _ (fun d hd => hc d (List.mem_cons_of_mem _ hd)) (chain_rel ha (hr.rel c (hc c List.mem_cons_self)))
  exact fun {cs} hc => key cs _ hc id_rel
theorem relation_run (hr : ROk r) {cs : List Nat} (hc : ∀ c ∈ cs, c ∈ r.ls) : F_Rule_relation T [dRule (T 0) r, dS cs] g = .ok (dRel (relT r cs)) g := by
  have hn := hr.n2
  have hi : ∀ g, F_identity [dN r.n] g = .ok (dRel (idN r.n)) g := fun g => identity_run (by omega)
  apply run_sat rfl rfl
  simp only [EV1, EV2, EV3, EV4, EV5, EV6, EV7, EV8, EV9, EV10, EV11, EV12, EV13, EV14, EV15, EV16, EV17, EV18, EV19, EV20, EV21, EV22, EV23, vals, List.replicate, Nat.reduceBEq, Nat.reduceAdd, Nat.reduceLT, Nat.reduceSub, Nat.reduceMul, Nat.reduceLeDiff, Nat.reduceEqDiff, OP1, OP2, h_Rule_relation, EV24, EV25, EV26, EV27, EV28, RU1, RU2, check_run hc, hi, signs_s]
  refine' Sat.stepI (loop_satJ (fun i ρ => ∃ x3, ρ = ⟨[vD (dRule (T 0) r), vD (dS cs), vD (dRel (relT r (cs.take i))), x3], g⟩) (by exact ⟨none, rfl⟩) (fun i d ρ hd hJ => ?_)) (fun o ρ hJ => ?_)
  · obtain ⟨x3, hρ⟩ := hJ
    subst hρ
    have hd2 := getMap hd
    cases hd2 with | intro c hd2 => ?_
    cases hd2 with | intro hcc e => ?_
    subst e
    have hcm := hc c (List.mem_of_getElem? hcc)
    have et : cs.take (i + 1) = cs.take i ++ [c] := by
      rw [List.take_add_one, hcc]
      rfl
    have jr : ∀ g, F_joined [dRel (relT r (cs.take i)), dRel (r.rel c)] g = .ok (dRel (chainN (relT r (cs.take i)) (r.rel c))) g := fun g => joined_run (by rw [relT_len]; omega) (by have := (hr.rel c hcm).len; omega)
    simp only [EV1, EV2, EV3, EV4, EV5, EV6, EV7, EV8, EV9, EV10, EV11, EV12, EV13, EV14, EV15, EV16, EV17, EV18, EV19, EV20, EV21, EV22, EV23, vals, List.replicate, Nat.reduceBEq, Nat.reduceAdd, Nat.reduceLT, Nat.reduceSub, Nat.reduceMul, Nat.reduceLeDiff, Nat.reduceEqDiff, OP1, OP2, EV24, EV25, EV26, EV27, EV28, RU1, RU2, dg_by hcm, jr]
    rw [et, relT_snoc]
    exact ⟨rfl, _, rfl⟩
  · obtain ⟨h0, x3, hρ⟩ := hJ
    subst h0 hρ
    simp only [EV1, EV2, EV3, EV4, EV5, EV6, EV7, EV8, EV9, EV10, EV11, EV12, EV13, EV14, EV15, EV16, EV17, EV18, EV19, EV20, EV21, EV22, EV23, vals, List.replicate, Nat.reduceBEq, Nat.reduceAdd, Nat.reduceLT, Nat.reduceSub, Nat.reduceMul, Nat.reduceLeDiff, Nat.reduceEqDiff, OP1, OP2, List.length_map, List.take_length]
    exact ⟨rfl, rfl⟩
variable {p : Plan}
end
end Nc
namespace Nc
open PySem PySem.Spec PyProof.Rows L2
end Nc
namespace Nc
open PySem PySem.Spec PyProof.Rows L2
end Nc
namespace Nc
open PySem PySem.Spec PyProof.Rows L2
end Nc
namespace Nc
open PySem PySem.Spec PyProof.Rows L2
abbrev lastS (w : List Nat) : Nat := w.getLastD 0
section
variable {r : RuleN} {cs w : List Nat} {c : Nat}
theorem last_snocS {t : Nat} : lastS (w ++ [t]) = t := last_snoc
end
def StkOk (n z : Nat) (ws : List (List Nat)) : Prop := ∀ i w, ws[i]? = some w → i < n * w.length ∧ w.length ≤ z + 1 ∧ w ≠ [] ∧ lastS w < n
section
variable {n z : Nat} {ws : List (List Nat)} {w : List Nat}
theorem StkOk.len (h : StkOk n z ws) : ws.length ≤ n * (z + 1) := by
  cases e : ws.length with
  | zero => exact Nat.zero_le _
  | succ k =>
    have hk : k < ws.length := by omega
    obtain ⟨h1, h2, _⟩ := h k _ (List.getElem?_eq_getElem hk)
    exact Nat.lt_of_lt_of_le h1 (Nat.mul_le_mul_left n h2)
theorem StkOk.pop (h : StkOk n z (ws ++ [w])) : StkOk n z ws := fun i v hv => h i v (by rw [List.getElem?_append_left (List.getElem?_eq_some_iff.mp hv).1]; exact hv)
theorem StkOk.top (h : StkOk n z (ws ++ [w])) : ws.length < n * w.length ∧ w.length ≤ z + 1 ∧ w ≠ [] ∧ lastS w < n := h ws.length w (by simp)
theorem StkOk.push (h : StkOk n z (ws ++ [w])) (hw : w.length < z + 1) {ts : List Nat} (ht : ts.length ≤ n) (hb : ∀ t ∈ ts, t < n) : StkOk n z (ws ++ ts.map fun t => w ++ [t]) := fun i v hv => by
  by_cases hi : i < ws.length
  · rw [List.getElem?_append_left hi] at hv
    exact h.pop i v hv
  · rw [List.getElem?_append_right (by omega), List.getElem?_map] at hv
    obtain ⟨t, h1, rfl⟩ := Option.map_eq_some_iff.mp hv
    have h2 := (List.getElem?_eq_some_iff.mp h1).1
    have h3 := h.top.1
    have e : (w ++ [t]).length = w.length + 1 := by rw [List.length_append]; rfl
    rw [e]
    refine ⟨?_, by omega, by simp, by rw [last_snocS]; exact hb t (List.mem_of_getElem? h1)⟩
    rw [Nat.mul_succ]
    omega
end
end Nc
set_option maxHeartbeats 8000000
namespace Nc
open PySem PySem.Spec PyProof.Rows L2
end Nc
set_option maxHeartbeats 8000000
namespace Nc
open PySem PySem.Spec PyProof.Rows L2
end Nc
set_option maxHeartbeats 8000000
namespace Nc
open PySem PySem.Spec PyProof.Rows L2
end Nc
namespace Nc
open PySem PySem.Spec PyProof.Rows L2
end Nc
namespace Nc
open PySem PySem.Spec PyProof.Rows L2
end Nc
namespace Nc
open PySem PySem.Spec PyProof.Rows L2
end Nc
namespace Nc
open PySem PySem.Spec PyProof.Rows L2
end Nc
namespace Nc
open PySem PySem.Spec PyProof.Rows L2
end Nc
namespace Nc
open PySem PySem.Spec PyProof.Rows L2
end Nc
namespace Nc
open PySem PySem.Spec PyProof.Rows L2
end Nc
namespace Nc
open PySem PySem.Spec PyProof.Rows L2
end Nc
namespace Nc
open PySem PySem.Spec PyProof.Rows L2
noncomputable instance : DecidableEq Plan := fun a b => Classical.propDecidable (a = b)
end Nc
namespace Nc
open PySem PySem.Spec PyProof.Rows L2
open PySem.W (AlikeAll AllAlike Sortable alike dataLt dataLe)
end Nc
namespace Nc
open PySem PySem.Spec PyProof.Rows L2
open PySem.W (AllAlike Sortable dataLe dataLt alike alikeAll keyToks keyToksAll)
end Nc
namespace Nc
open PySem PySem.Spec PyProof.Rows L2
end Nc
namespace Nc
open PySem PySem.Spec PyProof.Rows L2
end Nc
set_option maxHeartbeats 8000000
namespace Nc
open PySem PySem.Spec PyProof.Rows L2
end Nc
set_option maxHeartbeats 8000000
namespace Nc
open PySem PySem.Spec PyProof.Rows L2
def sO (o : Option D) : Option Slot := o.map Slot.val
theorem noOwn_sO {o : Option D} {l : List (Option Slot)} : noOwn (sO o :: l) = noOwn l := by
  cases o <;> rfl
end Nc
namespace Nc
open PySem PySem.Spec PyProof.Rows L2
end Nc
set_option maxHeartbeats 8000000
namespace Nc
open PySem PySem.Spec PyProof.Rows L2
end Nc
set_option maxHeartbeats 8000000
namespace Nc
open PySem PySem.Spec PyProof.Rows L2
end Nc
set_option maxHeartbeats 8000000
namespace Nc
open PySem PySem.Spec PyProof.Rows L2
end Nc
set_option maxHeartbeats 8000000
namespace Nc
open PySem PySem.Spec PyProof.Rows L2
section
variable {T : Nat → Addr} {r : RuleN} {g : Cells} {cs : List Nat} {a c0 : Nat}
theorem enumC_get {i : Nat} {d : D} (h : (enumL (cs.map dC))[i]? = some d) : ∃ c, cs[i]? = some c ∧ d = .tup [dN i, dC c] := by
  obtain ⟨e, he, rfl⟩ := enumL_get h
  rw [List.getElem?_map] at he
  obtain ⟨c, hc, rfl⟩ := Option.map_eq_some_iff.mp he
  exact ⟨c, hc, rfl⟩
theorem check_bad (h0 : cs[a]? = some c0) (hn : c0 ∉ r.ls) (h : ∀ i c, i < a → cs[i]? = some c → c ∈ r.ls) : F_Rule_check_text T [dRule (T 0) r, dS cs] g = .ex (xnOf T 25 "at" "InvalidText" (dN a)) g := by
  apply run_satE rfl rfl
  simp only [EV1, EV2, EV3, EV4, EV5, EV6, EV7, EV8, EV9, EV10, EV11, EV12, EV13, EV14, EV15, EV16, EV17, EV18, EV19, EV20, EV21, EV22, EV23, vals, List.replicate, Nat.reduceBEq, Nat.reduceAdd, Nat.reduceLT, Nat.reduceSub, Nat.reduceMul, Nat.reduceLeDiff, Nat.reduceEqDiff, OP1, OP2, h_Rule_check_text, EV25, signs_s]
  refine' loop_satE (fun i ρ => ∃ x2 x3, ρ = ⟨[vD (dRule (T 0) r), vD (dS cs), x2, x3], g⟩) a (.tup [dN a, dC c0]) (by exact enumL_atD (by rw [List.getElem?_map, h0]; rfl)) (by exact ⟨none, none, rfl⟩) (fun i d ρ hi hd hJ => ?_) (fun ρ hJ => ?_)
  · obtain ⟨x2, x3, hρ⟩ := hJ
    obtain ⟨c, hc, e⟩ := enumC_get hd
    have hcl := decide_eq_true (h i c hi hc)
    subst hρ e
    simp only [EV1, EV2, EV3, EV4, EV5, EV6, EV7, EV8, EV9, EV10, EV11, EV12, EV13, EV14, EV15, EV16, EV17, EV18, EV19, EV20, EV21, EV22, EV23, vals, List.replicate, Nat.reduceBEq, Nat.reduceAdd, Nat.reduceLT, Nat.reduceSub, Nat.reduceMul, Nat.reduceLeDiff, Nat.reduceEqDiff, OP1, OP2, RU1, RU2, notIn_cs, hcl]
    exact ⟨rfl, _, _, rfl⟩
  · obtain ⟨x2, x3, hρ⟩ := hJ
    have hcl := decide_eq_false hn
    subst hρ
    simp only [EV1, EV2, EV3, EV4, EV5, EV6, EV7, EV8, EV9, EV10, EV11, EV12, EV13, EV14, EV15, EV16, EV17, EV18, EV19, EV20, EV21, EV22, EV23, vals, List.replicate, Nat.reduceBEq, Nat.reduceAdd, Nat.reduceLT, Nat.reduceSub, Nat.reduceMul, Nat.reduceLeDiff, Nat.reduceEqDiff, OP1, OP2, EV25, RU1, RU2, notIn_cs, hcl]
    exact ⟨by trivial, by trivial⟩
section
variable (hb : ∀ g, F_Rule_check_text T [dRule (T 0) r, dS cs] g = .ex (xnOf T 25 "at" "InvalidText" (dN a)) g)
include hb
theorem relation_bad : F_Rule_relation T [dRule (T 0) r, dS cs] g = .ex (xnOf T 25 "at" "InvalidText" (dN a)) g := by
  apply run_satE rfl rfl
  simp only [EV1, EV2, EV3, EV4, EV5, EV6, EV7, EV8, EV9, EV10, EV11, EV12, EV13, EV14, EV15, EV16, EV17, EV18, EV19, EV20, EV21, EV22, EV23, vals, List.replicate, Nat.reduceBEq, Nat.reduceAdd, Nat.reduceLT, Nat.reduceSub, Nat.reduceMul, Nat.reduceLeDiff, Nat.reduceEqDiff, OP1, OP2, h_Rule_relation, EV25, RU1, RU2, hb]
  exact ⟨by trivial, by trivial⟩
theorem run_bad {P2 P3 : D} : F_Rule_run T [dRule (T 0) r, dS cs, P2, P3] g = .ex (xnOf T 25 "at" "InvalidText" (dN a)) g := by
  apply run_satE rfl rfl
  simp only [EV1, EV2, EV3, EV4, EV5, EV6, EV7, EV8, EV9, EV10, EV11, EV12, EV13, EV14, EV15, EV16, EV17, EV18, EV19, EV20, EV21, EV22, EV23, vals, List.replicate, Nat.reduceBEq, Nat.reduceAdd, Nat.reduceLT, Nat.reduceSub, Nat.reduceMul, Nat.reduceLeDiff, Nat.reduceEqDiff, OP1, OP2, h_Rule_run, EV25, RU1, RU2, hb]
  exact ⟨by trivial, by trivial⟩
theorem least_bad (hr : ROk r) : F_Rule_least_marking T [dRule (T 0) r, dS cs] g = .ex (xnOf T 25 "at" "InvalidText" (dN a)) g := by
  apply run_satE rfl rfl
  simp only [EV1, EV2, EV3, EV4, EV5, EV6, EV7, EV8, EV9, EV10, EV11, EV12, EV13, EV14, EV15, EV16, EV17, EV18, EV19, EV20, EV21, EV22, EV23, vals, List.replicate, Nat.reduceBEq, Nat.reduceAdd, Nat.reduceLT, Nat.reduceSub, Nat.reduceMul, Nat.reduceLeDiff, Nat.reduceEqDiff, OP1, OP2, h_Rule_least_marking, EV25, RU1, RU2, first_run hr, last_run hr, run_bad hb]
  exact ⟨by trivial, by trivial⟩
theorem call_bad (hr : ROk r) : F_Rule___call__ T [dRule (T 0) r, dS cs] g = .ex (xnOf T 25 "at" "InvalidText" (dN a)) g := by
  apply run_satE rfl rfl
  simp only [EV1, EV2, EV3, EV4, EV5, EV6, EV7, EV8, EV9, EV10, EV11, EV12, EV13, EV14, EV15, EV16, EV17, EV18, EV19, EV20, EV21, EV22, EV23, vals, List.replicate, Nat.reduceBEq, Nat.reduceAdd, Nat.reduceLT, Nat.reduceSub, Nat.reduceMul, Nat.reduceLeDiff, Nat.reduceEqDiff, OP1, OP2, h_Rule___call__, EV25, RU1, RU2, least_bad hb hr]
  exact ⟨by trivial, by trivial⟩
theorem cont_bad (hr : ROk r) : F_Rule___contains__ T [dRule (T 0) r, dS cs] g = .ex (xnOf T 25 "at" "InvalidText" (dN a)) g := by
  apply run_satE rfl rfl
  simp only [EV1, EV2, EV3, EV4, EV5, EV6, EV7, EV8, EV9, EV10, EV11, EV12, EV13, EV14, EV15, EV16, EV17, EV18, EV19, EV20, EV21, EV22, EV23, vals, List.replicate, Nat.reduceBEq, Nat.reduceAdd, Nat.reduceLT, Nat.reduceSub, Nat.reduceMul, Nat.reduceLeDiff, Nat.reduceEqDiff, OP1, OP2, h_Rule___contains__, EV25, RU1, RU2, least_bad hb hr]
  exact ⟨by trivial, by trivial⟩
theorem many_bad : F_Rule_how_many T [dRule (T 0) r, dS cs] g = .ex (xnOf T 25 "at" "InvalidText" (dN a)) g := by
  apply run_satE rfl rfl
  simp only [EV1, EV2, EV3, EV4, EV5, EV6, EV7, EV8, EV9, EV10, EV11, EV12, EV13, EV14, EV15, EV16, EV17, EV18, EV19, EV20, EV21, EV22, EV23, vals, List.replicate, Nat.reduceBEq, Nat.reduceAdd, Nat.reduceLT, Nat.reduceSub, Nat.reduceMul, Nat.reduceLeDiff, Nat.reduceEqDiff, OP1, OP2, h_Rule_how_many, EV25, RU1, RU2, hb]
  exact ⟨by trivial, by trivial⟩
theorem ismark_bad {P2 : D} : F_Rule_is_marking T [dRule (T 0) r, dS cs, P2] g = .ex (xnOf T 25 "at" "InvalidText" (dN a)) g := by
  apply run_satE rfl rfl
  simp only [EV1, EV2, EV3, EV4, EV5, EV6, EV7, EV8, EV9, EV10, EV11, EV12, EV13, EV14, EV15, EV16, EV17, EV18, EV19, EV20, EV21, EV22, EV23, vals, List.replicate, Nat.reduceBEq, Nat.reduceAdd, Nat.reduceLT, Nat.reduceSub, Nat.reduceMul, Nat.reduceLeDiff, Nat.reduceEqDiff, OP1, OP2, h_Rule_is_marking, EV25, RU1, RU2, hb]
  exact ⟨by trivial, by trivial⟩
theorem markings_bad {P2 : D} : F_Rule_markings_v2 T [dRule (T 0) r, dS cs, P2] g = .ex (xnOf T 25 "at" "InvalidText" (dN a)) g := by
  apply run_satE rfl rfl
  simp only [EV1, EV2, EV3, EV4, EV5, EV6, EV7, EV8, EV9, EV10, EV11, EV12, EV13, EV14, EV15, EV16, EV17, EV18, EV19, EV20, EV21, EV22, EV23, vals, List.replicate, Nat.reduceBEq, Nat.reduceAdd, Nat.reduceLT, Nat.reduceSub, Nat.reduceMul, Nat.reduceLeDiff, Nat.reduceEqDiff, OP1, OP2, h_Rule_markings_v2, EV25, RU1, RU2, hb]
  exact ⟨by trivial, by trivial⟩
end
theorem relT_app2 (hr : ROk r) {t : List Nat} (ht : ∀ c ∈ t, c ∈ r.ls) : ∀ (m : List Nat), (∀ c ∈ m, c ∈ r.ls) → relT r (t ++ m.reverse.reverse) = chainN (relT r t) (relT r m.reverse.reverse) := by
  intro m hm
  rw [List.reverse_reverse]
  have hm2 : ∀ c ∈ m.reverse, c ∈ r.ls := fun c h => hm c (List.mem_reverse.mp h)
  rw [← List.reverse_reverse m]
  generalize m.reverse = k at hm2
  induction k with
  | nil =>
    rw [List.reverse_nil, List.append_nil]
    show relT r t = chainN (relT r t) (idN r.n)
    rw [chain_id (relT_rel hr ht)]
  | cons d ds ih =>
    have h1 : ∀ c ∈ ds, c ∈ r.ls := fun c h => hm2 c (List.mem_cons_of_mem _ h)
    have hd := hm2 d List.mem_cons_self
    rw [List.reverse_cons, ← List.append_assoc, relT_snoc, relT_snoc, ih h1]
    exact chain_assoc relT_len relT_len (hr.rel d hd).len
theorem relT_cat (hr : ROk r) {t m : List Nat} (ht : ∀ c ∈ t, c ∈ r.ls) (hm : ∀ c ∈ m, c ∈ r.ls) : relT r (t ++ m) = chainN (relT r t) (relT r m) := by
  have h := relT_app2 hr ht m hm
  rw [List.reverse_reverse] at h
  exact h
theorem lrelS_run {p : Plan} {t : List Nat} {g : Cells} (hp : p.Can) (ht : ∀ c ∈ t, c ∈ p.ls) : F_law_rel [dPlan p, dS t] g = .ok (dRel (relT (ruleOf p) t)) g := by
  have hn2 := hp.n2
  apply run_sat rfl rfl
  simp only [EV1, EV2, EV3, EV4, EV5, EV6, EV7, EV8, EV9, EV10, EV11, EV12, EV13, EV14, EV15, EV16, EV17, EV18, EV19, EV20, EV21, EV22, EV23, vals, List.replicate, Nat.reduceBEq, Nat.reduceAdd, Nat.reduceLT, Nat.reduceSub, Nat.reduceMul, Nat.reduceLeDiff, Nat.reduceEqDiff, OP1, OP2, h_law_rel, signs_s, lsame_run (show p.n < 1000 by omega)]
  refine' Sat.stepI (loop_satJ (fun i ρ => ∃ (x3 : Option Slot), ρ = ⟨[vD (dPlan p), vD (dS t), vD (dRel (relT (ruleOf p) (t.take i))), x3], g⟩) (by exact ⟨none, rfl⟩) (fun i d ρ hd hJ => ?_)) (fun o ρ hJ => ?_)
  · obtain ⟨x3, hρ⟩ := hJ
    have hd2 := getMap hd
    cases hd2 with | intro c hd2 => ?_
    cases hd2 with | intro hc ed => ?_
    have hcl := ht c (List.mem_of_getElem? hc)
    have ek : t.take (i + 1) = t.take i ++ [c] := by rw [List.take_add_one, hc]; rfl
    have hl1 : (relT (ruleOf p) (t.take i)).length = p.n := relT_len
    have hl2 : ((ruleOf p).rel c).length = p.n := (hp.rok.rel c hcl).len
    rw [ek, relT_snoc]
    subst hρ ed
    simp only [EV1, EV2, EV3, EV4, EV5, EV6, EV7, EV8, EV9, EV10, EV11, EV12, EV13, EV14, EV15, EV16, EV17, EV18, EV19, EV20, EV21, EV22, EV23, vals, List.replicate, Nat.reduceBEq, Nat.reduceAdd, Nat.reduceLT, Nat.reduceSub, Nat.reduceMul, Nat.reduceLeDiff, Nat.reduceEqDiff, OP1, OP2, letter_rel_run hp, lchain_run (show (relT (ruleOf p) (t.take i)).length < 1000 by omega) (show ((ruleOf p).rel c).length < 1000 by omega)]
    exact ⟨by trivial, _, by trivial⟩
  · obtain ⟨h0, x3, hρ⟩ := hJ
    rw [List.length_map, List.take_length] at hρ
    subst h0 hρ
    simp only [EV1, EV2, EV3, EV4, EV5, EV6, EV7, EV8, EV9, EV10, EV11, EV12, EV13, EV14, EV15, EV16, EV17, EV18, EV19, EV20, EV21, EV22, EV23, vals, List.replicate, Nat.reduceBEq, Nat.reduceAdd, Nat.reduceLT, Nat.reduceSub, Nat.reduceMul, Nat.reduceLeDiff, Nat.reduceEqDiff, OP1, OP2]
    exact ⟨rfl, rfl⟩
end
end Nc
set_option maxHeartbeats 8000000
namespace Nc
open PySem PySem.Spec PyProof.Rows L2
theorem plan_run3 {b : Box} {g : Cells} {a m : Nat} (ha : 0 < a) (ha2 : a ≤ 12) (hm : 0 < m) (hm2 : m ≤ 4) (hz : m * (a * a) < 600) : ∃ (p : Plan) (b' : Box), F_law_plan [.ptr 0, dN a, dN m] (b.o :: g) = .ok (dPlan p) (Box.o b' :: g) ∧ p.Can ∧ p.n ≤ a ∧ p.ls.length ≤ m := by
  have key : ∃ x : Plan × Box, (x.1.Can ∧ x.1.n ≤ a ∧ x.1.ls.length ≤ m) ∧ F_law_plan [.ptr 0, dN a, dN m] (b.o :: g) = .ok (dPlan x.1) (Box.o x.2 :: g) := by
    apply run_satX (ι := Plan × Box) (P := fun x => x.1.Can ∧ x.1.n ≤ a ∧ x.1.ls.length ≤ m) (f := fun x => dPlan x.1) (G := fun x => x.2.o :: g) rfl rfl
    have d1 := draw_lt (b := b) hm
    obtain ⟨W, b1, e1, ls, rfl, hl, hlen, hasc⟩ := letters_run2 (b := b.nx m) (g := g) (j := b.draw m) (by omega)
    have d2 := draw_lt (b := b1) ha
    generalize hn : 1 + b1.draw a = n at *
    generalize hw : (b1.nx a).draw 4 = way
    generalize hb3 : (b1.nx a).nx 4 = b3
    have hn1 : n ≤ a := by omega
    have hn2 : n * n ≤ a * a := Nat.mul_le_mul hn1 hn1
    have hlm : ls.length ≤ m := by omega
    have hln := isLet_nodup hl
    have htot : ls.length * (n * n) ≤ m * (a * a) := Nat.mul_le_mul hlm hn2
    simp only [EV1, EV2, EV3, EV4, EV5, EV6, EV7, EV8, EV9, EV10, EV11, EV12, EV13, EV14, EV15, EV16, EV17, EV18, EV19, EV20, EV21, EV22, EV23, vals, List.replicate, Nat.reduceBEq, Nat.reduceAdd, Nat.reduceLT, Nat.reduceSub, Nat.reduceMul, Nat.reduceLeDiff, Nat.reduceEqDiff, OP1, OP2, h_law_plan, draw_run (b := b) (g := g) hm (show m < 10 ^ 40 by omega), e1, draw_run (b := b1) (g := g) ha (show a < 10 ^ 40 by omega), hn, draw_run (b := b1.nx a) (g := g) (show 0 < 4 by decide) (show 4 < 10 ^ 40 by decide), hw, hb3, signs_s]
    refine' Sat.stepI (loop_satJ (fun i ρ => ∃ (ss : List (Nat × Nat × Nat)) (x7 x8 x9 : Option Slot) (b' : Box), ρ = RPl a m ls n way ss x7 x8 x9 b' g ∧ StepsIn n ls ss ∧ ss.length ≤ i * (n * n) ∧ ss.Nodup ∧ Bef ls i 0 0 ss) (by exact ⟨[], none, none, none, b3, rfl, (fun s h => absurd h List.not_mem_nil), Nat.zero_le _, List.nodup_nil, fun s h => absurd h List.not_mem_nil⟩) (fun i d ρ hd hJ => ?_)) (fun o ρ hJ => ?_)
    · obtain ⟨ss, x7, x8, x9, b', hρ, hs, hsl, hnd, hbf⟩ := hJ
      subst hρ
      have hd2 := getMap hd
      cases hd2 with | intro c hd2 => ?_
      cases hd2 with | intro hc e => ?_
      subst e
      have hil := (List.getElem?_eq_some_iff.mp hc).1
      have hi1 : (i + 1) * (n * n) ≤ ls.length * (n * n) := Nat.mul_le_mul_right _ hil
      have hi2 : (i + 1) * (n * n) = i * (n * n) + n * n := Nat.succ_mul _ _
      have hcl := List.mem_of_getElem? hc
      simp only [EV1, EV2, EV3, EV4, EV5, EV6, EV7, EV8, EV9, EV10, EV11, EV12, EV13, EV14, EV15, EV16, EV17, EV18, EV19, EV20, EV21, EV22, EV23, vals, List.replicate, Nat.reduceBEq, Nat.reduceAdd, Nat.reduceLT, Nat.reduceSub, Nat.reduceMul, Nat.reduceLeDiff, Nat.reduceEqDiff, OP1, OP2, rng1_n (show n < 1000000 by omega)]
      refine' Sat.stepI (loop_satJ (fun k ρ => ∃ (ss : List (Nat × Nat × Nat)) (x8 x9 : Option Slot) (b' : Box), ρ = RPl a m ls n way ss (vD (dC c)) x8 x9 b' g ∧ StepsIn n ls ss ∧ ss.length ≤ i * (n * n) + k * n ∧ ss.Nodup ∧ Bef ls i c k ss) (by exact ⟨ss, x8, x9, b', rfl, hs, by omega, hnd, hbf.start⟩) (fun k d ρ hd hJ => ?_)) (fun o ρ hJ => ?_)
      · obtain ⟨ss, x8, x9, b', hρ, hs, hsl, hnd, hbf⟩ := hJ
        subst hρ
        have hd2 := getMap hd
        cases hd2 with | intro u hd2 => ?_
        cases hd2 with | intro hu e => ?_
        subst e
        have hun := List.mem_range.mp (List.mem_of_getElem? hu)
        have huk := range_at hu
        have hk := (List.getElem?_eq_some_iff.mp hu).1
        rw [List.length_range] at hk
        have hk1 : (k + 1) * n ≤ n * n := Nat.mul_le_mul_right _ hk
        have hk2 : (k + 1) * n = k * n + n := Nat.succ_mul _ _
        simp only [EV1, EV2, EV3, EV4, EV5, EV6, EV7, EV8, EV9, EV10, EV11, EV12, EV13, EV14, EV15, EV16, EV17, EV18, EV19, EV20, EV21, EV22, EV23, vals, List.replicate, Nat.reduceBEq, Nat.reduceAdd, Nat.reduceLT, Nat.reduceSub, Nat.reduceMul, Nat.reduceLeDiff, Nat.reduceEqDiff, OP1, OP2, rng1_n (show n < 1000000 by omega)]
        refine' Sat.stepI (lcL_satJ (fun i acc ρ => ∃ (xs : List Nat) (b'' : Box), acc = List.map dN xs ∧ ρ = RPl a m ls n way ss (vD (dC c)) (vN u) x9 b'' g ∧ xs.length ≤ i ∧ (∀ y ∈ xs, y < n) ∧ xs.Pairwise (· < ·) ∧ ∀ y ∈ xs, y < i) (by exact ⟨[], b', rfl, rfl, Nat.le_refl _, (fun y hy => absurd hy List.not_mem_nil), List.Pairwise.nil, (fun y hy => absurd hy List.not_mem_nil)⟩) (by simp; omega) (fun i d acc ρ hd hJ => ?_)) (fun o ρ hJ => ?_)
        · obtain ⟨xs, b'', ha, hρ, hl, hb, hpw, hbi⟩ := hJ
          subst ha hρ
          have hd2 := getMap hd
          cases hd2 with | intro x hd2 => ?_
          cases hd2 with | intro hx e => ?_
          have hxn := List.mem_range.mp (List.mem_of_getElem? hx)
          subst e
          have hxi := range_at hx
          simp only [EV1, EV2, EV3, EV4, EV5, EV6, EV7, EV8, EV9, EV10, EV11, EV12, EV13, EV14, EV15, EV16, EV17, EV18, EV19, EV20, EV21, EV22, EV23, vals, List.replicate, Nat.reduceBEq, Nat.reduceAdd, Nat.reduceLT, Nat.reduceSub, Nat.reduceMul, Nat.reduceLeDiff, Nat.reduceEqDiff, OP1, OP2, draw_run (b := b'') (g := g) (show 0 < 2 by decide) (show 2 < 10 ^ 40 by decide)]
          cases hq : decide (b''.draw 2 = 0)
          · simp only [EV1, EV2, EV3, EV4, EV5, EV6, EV7, EV8, EV9, EV10, EV11, EV12, EV13, EV14, EV15, EV16, EV17, EV18, EV19, EV20, EV21, EV22, EV23, vals, List.replicate, Nat.reduceBEq, Nat.reduceAdd, Nat.reduceLT, Nat.reduceSub, Nat.reduceMul, Nat.reduceLeDiff, Nat.reduceEqDiff, OP1, OP2]
            exact ⟨xs, b''.nx 2, rfl, rfl, by omega, hb, hpw, fun y hy => Nat.lt_succ_of_lt (hbi y hy)⟩
          · simp only [EV1, EV2, EV3, EV4, EV5, EV6, EV7, EV8, EV9, EV10, EV11, EV12, EV13, EV14, EV15, EV16, EV17, EV18, EV19, EV20, EV21, EV22, EV23, vals, List.replicate, Nat.reduceBEq, Nat.reduceAdd, Nat.reduceLT, Nat.reduceSub, Nat.reduceMul, Nat.reduceLeDiff, Nat.reduceEqDiff, OP1, OP2]
            refine ⟨xs ++ [x], b''.nx 2, by rw [addO_some, List.map_append]; rfl, rfl, by rw [List.length_append]; exact Nat.succ_le_succ hl, fun y hy => ?_, asc_snoc hpw (by rw [hxi]; exact hbi), fun y hy => ?_⟩
            · rcases List.mem_append.mp hy with hy | hy
              · exact hb y hy
              · rw [List.mem_singleton.mp hy]
                exact hxn
            · rcases List.mem_append.mp hy with hy | hy
              · exact Nat.lt_succ_of_lt (hbi y hy)
              · rw [List.mem_singleton.mp hy, hxi]
                exact Nat.lt_succ_self i
        · obtain ⟨out, h0, xs, b'', ha, hρ, hl, hb, hpw, hbi⟩ := hJ
          subst h0 ha hρ
          rw [List.length_map, List.length_range] at hl
          simp only [EV1, EV2, EV3, EV4, EV5, EV6, EV7, EV8, EV9, EV10, EV11, EV12, EV13, EV14, EV15, EV16, EV17, EV18, EV19, EV20, EV21, EV22, EV23, vals, List.replicate, Nat.reduceBEq, Nat.reduceAdd, Nat.reduceLT, Nat.reduceSub, Nat.reduceMul, Nat.reduceLeDiff, Nat.reduceEqDiff, OP1, OP2, eq_nilN (show xs.length < 100000 by omega)]
          cases hx : xs.isEmpty
          · simp only [EV1, EV2, EV3, EV4, EV5, EV6, EV7, EV8, EV9, EV10, EV11, EV12, EV13, EV14, EV15, EV16, EV17, EV18, EV19, EV20, EV21, EV22, EV23, vals, List.replicate, Nat.reduceBEq, Nat.reduceAdd, Nat.reduceLT, Nat.reduceSub, Nat.reduceMul, Nat.reduceLeDiff, Nat.reduceEqDiff, OP1, OP2]
            refine' Sat.step (lcL_mapS (f := dN) (r := fun z => dStep (u, c, z)) (fun z hz => ?_) (Nat.lt_of_le_of_lt hl (by omega))) ?_
            · simp only [EV1, EV2, EV3, EV4, EV5, EV6, EV7, EV8, EV9, EV10, EV11, EV12, EV13, EV14, EV15, EV16, EV17, EV18, EV19, EV20, EV21, EV22, EV23, vals, List.replicate, Nat.reduceBEq, Nat.reduceAdd, Nat.reduceLT, Nat.reduceSub, Nat.reduceMul, Nat.reduceLeDiff, Nat.reduceEqDiff, OP1, OP2]
              try exact rfl
            · have e5 : (xs.map fun z => dStep (u, c, z)) = (xs.map fun z => (u, c, z)).map dStep := by rw [List.map_map]; rfl
              simp only [EV1, EV2, EV3, EV4, EV5, EV6, EV7, EV8, EV9, EV10, EV11, EV12, EV13, EV14, EV15, EV16, EV17, EV18, EV19, EV20, EV21, EV22, EV23, vals, List.replicate, Nat.reduceBEq, Nat.reduceAdd, Nat.reduceLT, Nat.reduceSub, Nat.reduceMul, Nat.reduceLeDiff, Nat.reduceEqDiff, OP1, OP2, e5, add_lsts (show (ss.map dStep).length + ((xs.map fun z => (u, c, z)).map dStep).length < 100000 by simp; omega)]
              refine ⟨rfl, ss ++ xs.map fun z => (u, c, z), vN u, vD (.lst (xs.map dN)), b'', by unfold RPl; rw [List.map_append], fun s hs' => ?_, by rw [List.length_append, List.length_map]; have := hl; omega, bef_nodup hnd hbf hc hln hpw.nodupN (Nat.le_of_eq huk.symm), (bef_snoc hbf (show u = k from huk))⟩
              rcases List.mem_append.mp hs' with q | q
              · exact hs s q
              · obtain ⟨z, hz, rfl⟩ := List.mem_map.mp q
                exact ⟨hun, hcl, hb z hz⟩
          · simp only [EV1, EV2, EV3, EV4, EV5, EV6, EV7, EV8, EV9, EV10, EV11, EV12, EV13, EV14, EV15, EV16, EV17, EV18, EV19, EV20, EV21, EV22, EV23, vals, List.replicate, Nat.reduceBEq, Nat.reduceAdd, Nat.reduceLT, Nat.reduceSub, Nat.reduceMul, Nat.reduceLeDiff, Nat.reduceEqDiff, OP1, OP2]
            cases hq : decide (0 < way)
            · simp only [EV1, EV2, EV3, EV4, EV5, EV6, EV7, EV8, EV9, EV10, EV11, EV12, EV13, EV14, EV15, EV16, EV17, EV18, EV19, EV20, EV21, EV22, EV23, vals, List.replicate, Nat.reduceBEq, Nat.reduceAdd, Nat.reduceLT, Nat.reduceSub, Nat.reduceMul, Nat.reduceLeDiff, Nat.reduceEqDiff, OP1, OP2]
              refine' Sat.step (lcL_mapS (f := dN) (r := fun z => dStep (u, c, z)) (fun z hz => ?_) (Nat.lt_of_le_of_lt hl (by omega))) ?_
              · simp only [EV1, EV2, EV3, EV4, EV5, EV6, EV7, EV8, EV9, EV10, EV11, EV12, EV13, EV14, EV15, EV16, EV17, EV18, EV19, EV20, EV21, EV22, EV23, vals, List.replicate, Nat.reduceBEq, Nat.reduceAdd, Nat.reduceLT, Nat.reduceSub, Nat.reduceMul, Nat.reduceLeDiff, Nat.reduceEqDiff, OP1, OP2]
                try exact rfl
              · have e5 : (xs.map fun z => dStep (u, c, z)) = (xs.map fun z => (u, c, z)).map dStep := by rw [List.map_map]; rfl
                simp only [EV1, EV2, EV3, EV4, EV5, EV6, EV7, EV8, EV9, EV10, EV11, EV12, EV13, EV14, EV15, EV16, EV17, EV18, EV19, EV20, EV21, EV22, EV23, vals, List.replicate, Nat.reduceBEq, Nat.reduceAdd, Nat.reduceLT, Nat.reduceSub, Nat.reduceMul, Nat.reduceLeDiff, Nat.reduceEqDiff, OP1, OP2, e5, add_lsts (show (ss.map dStep).length + ((xs.map fun z => (u, c, z)).map dStep).length < 100000 by simp; omega)]
                refine ⟨rfl, ss ++ xs.map fun z => (u, c, z), vN u, vD (.lst (xs.map dN)), b'', by unfold RPl; rw [List.map_append], fun s hs' => ?_, by rw [List.length_append, List.length_map]; have := hl; omega, bef_nodup hnd hbf hc hln hpw.nodupN (Nat.le_of_eq huk.symm), (bef_snoc hbf (show u = k from huk))⟩
                rcases List.mem_append.mp hs' with q | q
                · exact hs s q
                · obtain ⟨z, hz, rfl⟩ := List.mem_map.mp q
                  exact ⟨hun, hcl, hb z hz⟩
            · simp only [EV1, EV2, EV3, EV4, EV5, EV6, EV7, EV8, EV9, EV10, EV11, EV12, EV13, EV14, EV15, EV16, EV17, EV18, EV19, EV20, EV21, EV22, EV23, vals, List.replicate, Nat.reduceBEq, Nat.reduceAdd, Nat.reduceLT, Nat.reduceSub, Nat.reduceMul, Nat.reduceLeDiff, Nat.reduceEqDiff, OP1, OP2, draw_run (b := b'') (g := g) (show 0 < n by omega) (show n < 10 ^ 40 by omega)]
              have h2 : ∀ y ∈ [b''.draw n], y < n := fun y hy => by
                rw [List.mem_singleton.mp hy]
                exact draw_lt (by omega)
              have h1 : [b''.draw n].length ≤ n := by
                show 1 ≤ n
                omega
              have es1 : [dN (b''.draw n)] = [b''.draw n].map dN := rfl
              rw [es1]
              have h3 : [b''.draw n].Nodup := List.nodup_cons.mpr ⟨List.not_mem_nil, List.nodup_nil⟩
              generalize [b''.draw n] = zs at h1 h2 h3 ⊢
              refine' Sat.step (lcL_mapS (f := dN) (r := fun z => dStep (u, c, z)) (fun z hz => ?_) (Nat.lt_of_le_of_lt h1 (by omega))) ?_
              · simp only [EV1, EV2, EV3, EV4, EV5, EV6, EV7, EV8, EV9, EV10, EV11, EV12, EV13, EV14, EV15, EV16, EV17, EV18, EV19, EV20, EV21, EV22, EV23, vals, List.replicate, Nat.reduceBEq, Nat.reduceAdd, Nat.reduceLT, Nat.reduceSub, Nat.reduceMul, Nat.reduceLeDiff, Nat.reduceEqDiff, OP1, OP2]
                try exact rfl
              · have e5 : (zs.map fun z => dStep (u, c, z)) = (zs.map fun z => (u, c, z)).map dStep := by rw [List.map_map]; rfl
                simp only [EV1, EV2, EV3, EV4, EV5, EV6, EV7, EV8, EV9, EV10, EV11, EV12, EV13, EV14, EV15, EV16, EV17, EV18, EV19, EV20, EV21, EV22, EV23, vals, List.replicate, Nat.reduceBEq, Nat.reduceAdd, Nat.reduceLT, Nat.reduceSub, Nat.reduceMul, Nat.reduceLeDiff, Nat.reduceEqDiff, OP1, OP2, e5, add_lsts (show (ss.map dStep).length + ((zs.map fun z => (u, c, z)).map dStep).length < 100000 by simp; omega)]
                refine ⟨rfl, ss ++ zs.map fun z => (u, c, z), vN u, vD (.lst (zs.map dN)), b''.nx n, by unfold RPl; rw [List.map_append], fun s hs' => ?_, by rw [List.length_append, List.length_map]; have := h1; omega, bef_nodup hnd hbf hc hln h3 (Nat.le_of_eq huk.symm), (bef_snoc hbf (show u = k from huk))⟩
                rcases List.mem_append.mp hs' with q | q
                · exact hs s q
                · obtain ⟨z, hz, rfl⟩ := List.mem_map.mp q
                  exact ⟨hun, hcl, h2 z hz⟩
      · obtain ⟨h0, ss, x8, x9, b', hρ, hs, hsl, hnd, hbf⟩ := hJ
        subst h0 hρ
        rw [List.length_map, List.length_range] at hsl
        simp only [EV1, EV2, EV3, EV4, EV5, EV6, EV7, EV8, EV9, EV10, EV11, EV12, EV13, EV14, EV15, EV16, EV17, EV18, EV19, EV20, EV21, EV22, EV23, vals, List.replicate, Nat.reduceBEq, Nat.reduceAdd, Nat.reduceLT, Nat.reduceSub, Nat.reduceMul, Nat.reduceLeDiff, Nat.reduceEqDiff, OP1, OP2]
        exact ⟨rfl, ss, vD (dC c), x8, x9, b', rfl, hs, by omega, hnd, hbf.next hc⟩
    · obtain ⟨h0, ss, x7, x8, x9, b', hρ, hs, hsl, hnd, hbf⟩ := hJ
      subst h0 hρ
      rw [List.length_map] at hsl
      obtain ⟨ss', es, hp, hso⟩ := sort_nodup hnd
      obtain ⟨f1, b4, ef, hf⟩ := some_run2 (b := b') (g := g) (n := n) (by omega)
      simp only [EV1, EV2, EV3, EV4, EV5, EV6, EV7, EV8, EV9, EV10, EV11, EV12, EV13, EV14, EV15, EV16, EV17, EV18, EV19, EV20, EV21, EV22, EV23, vals, List.replicate, Nat.reduceBEq, Nat.reduceAdd, Nat.reduceLT, Nat.reduceSub, Nat.reduceMul, Nat.reduceLeDiff, Nat.reduceEqDiff, OP1, OP2]
      cases hq : decide (1 < way)
      · obtain ⟨f2, b5, eg, hg⟩ := some_run2 (b := b4) (g := g) (n := n) (by omega)
        simp only [EV1, EV2, EV3, EV4, EV5, EV6, EV7, EV8, EV9, EV10, EV11, EV12, EV13, EV14, EV15, EV16, EV17, EV18, EV19, EV20, EV21, EV22, EV23, vals, List.replicate, Nat.reduceBEq, Nat.reduceAdd, Nat.reduceLT, Nat.reduceSub, Nat.reduceMul, Nat.reduceLeDiff, Nat.reduceEqDiff, OP1, OP2, es, ef, eg]
        exact ⟨(⟨ls, n, ss', f1, f2⟩, b5), ⟨⟨hl, show 1 ≤ n by omega, show n ≤ 12 by omega, fun s h => hs s (hp.mem_iff.mp h), hso, hf.1, hf.2, hg.1, hg.2, hasc⟩, hn1, hlm⟩, rfl, rfl⟩
      · simp only [EV1, EV2, EV3, EV4, EV5, EV6, EV7, EV8, EV9, EV10, EV11, EV12, EV13, EV14, EV15, EV16, EV17, EV18, EV19, EV20, EV21, EV22, EV23, vals, List.replicate, Nat.reduceBEq, Nat.reduceAdd, Nat.reduceLT, Nat.reduceSub, Nat.reduceMul, Nat.reduceLeDiff, Nat.reduceEqDiff, OP1, OP2, es, ef, rngO_n (show n ≤ 1000000 by omega)]
        exact ⟨(⟨ls, n, ss', f1, List.range n⟩, b4), ⟨⟨hl, show 1 ≤ n by omega, show n ≤ 12 by omega, fun s h => hs s (hp.mem_iff.mp h), hso, hf.1, hf.2, List.pairwise_lt_range, fun x hx => List.mem_range.mp hx, hasc⟩, hn1, hlm⟩, rfl, rfl⟩
  obtain ⟨⟨p, b'⟩, h, e⟩ := key
  exact ⟨p, b', e, h⟩
end Nc
set_option maxHeartbeats 8000000
namespace Nc
open PySem PySem.Spec PyProof.Rows L2
theorem pick_allG {Q : D → Prop} {ds : List D} {b : Box} (h : ∀ d ∈ ds, Q d) (h0 : 0 < ds.length) (h1 : ds.length < 1000000) : ∃ (d : D) (b' : Box), (∀ g, F_law_pick [.ptr 0, .lst ds] (b.o :: g) = .ok d (Box.o b' :: g)) ∧ Q d := by
  have hd := draw_lt (b := b) h0
  refine ⟨_, _, fun g => pick_run (.inl rfl) h0 h1, ?_⟩
  rw [List.getElem?_eq_getElem hd]
  exact h _ (List.getElem_mem hd)
theorem text_runG {b : Box} {ls : List Nat} {m : Nat} (h0 : 0 < ls.length) (h1 : ls.length < 100000) (hm : m < 1000) (g : Cells) : ∃ (cs : List Nat) (b' : Box), F_law_text [.ptr 0, dS ls, dN m] (b.o :: g) = .ok (dS cs) (Box.o b' :: g) ∧ cs.length ≤ m ∧ ∀ c ∈ cs, c ∈ ls := text_run h0 h1 hm
theorem lgX_r {C Ce : Addr} {m : Str} {F : Fn} {fo : M D} {as : M (List D)} : lgXM C m Ce F fo as = methM C m (exF Ce F) fo as := Eq.trans (Eq.refl _) (Eq.refl _)
theorem exF_bad {T : Nat → Addr} {F : Fn} {ds : List D} {g : Cells} {d : D} (h : F ds g = .ex (xnOf T 25 "at" "InvalidText" d) g) : exF (T 25) F ds g = .ex (xnOf T 25 "at" "InvalidText" d) g := by
  unfold exF
  rw [h]
  exact if_pos rfl
theorem kw07 {a z : D} : kwG 1 1 [0] [a] [z] = [a, z] := rfl
theorem cells2 {a b x : O} {J : Cells} : (a :: b :: (J ++ [x]))[J.length + 1 + 1]? = some x := by simp
theorem cells2s {a b x y : O} {J : Cells} : (a :: b :: (J ++ [x])).set (J.length + 1 + 1) y = a :: b :: (J ++ [y]) := by simp
noncomputable abbrev R07 (T : Nat → Addr) (v : D) (p : Plan) (x4 x5 x6 x7 x8 x9 x10 : Option D) (b : Box) (J : Cells) : Rho := ⟨[vD v, vD (.ptr 0), vD (dPlan p), vD (dRule (T 0) (ruleOf p)), sO x4, sO x5, sO x6, sO x7, sO x8, sO x9, sO x10], b.o :: .tbl 1 (T 99) lamQ :: J⟩
/-- a character that is no letter -/
def BadC (p : Plan) (d : D) : Prop := ∃ c, d = dS [c] ∧ c ∉ p.ls
theorem bad_pick {p : Plan} (hp : p.Can) {b : Box} : ∃ (c : Nat) (b' : Box), (∀ g, F_law_pick [.ptr 0, .lst [.str "A", .str " ", .str "0", .str "q", .str "."]] (b.o :: g) = .ok (dS [c]) (Box.o b' :: g)) ∧ c ∉ p.ls := by
  have hs := isLet_small hp.l
  have big : ∀ c, c ∉ small → c ∉ p.ls := fun c h1 h2 => h1 (hs c h2)
  obtain ⟨d, b', e, c, rfl, h⟩ := pick_allG (Q := BadC p) (b := b) (ds := [.str "A", .str " ", .str "0", .str "q", .str "."]) (fun d hd => by
    simp only [List.mem_cons, List.not_mem_nil, or_false] at hd
    rcases hd with rfl | rfl | rfl | rfl | rfl
    · exact ⟨65, congrArg D.str (by decide +kernel), big _ (by decide)⟩
    · exact ⟨32, congrArg D.str (by decide +kernel), big _ (by decide)⟩
    · exact ⟨48, congrArg D.str (by decide +kernel), big _ (by decide)⟩
    · exact ⟨113, congrArg D.str (by decide +kernel), fun h => (hp.asc 113 h).2 rfl⟩
    · exact ⟨46, congrArg D.str (by decide +kernel), big _ (by decide)⟩) (by exact Nat.succ_pos _) (by decide)
  exact ⟨c, b', e, h⟩
theorem tail_pick {b : Box} : ∃ (m : List Nat) (b' : Box), (∀ g, F_law_pick [.ptr 0, .lst [.str "", .str "B"]] (b.o :: g) = .ok (dS m) (Box.o b' :: g)) ∧ m.length < 2 := by
  obtain ⟨d, b', e, m, rfl, h⟩ := pick_allG (Q := fun d => ∃ m : List Nat, d = dS m ∧ m.length < 2) (b := b) (ds := [.str "", .str "B"]) (fun d hd => by
    simp only [List.mem_cons, List.not_mem_nil, or_false] at hd
    rcases hd with rfl | rfl
    · exact ⟨[], congrArg D.str (by decide +kernel), by decide⟩
    · exact ⟨[66], congrArg D.str (by decide +kernel), by decide⟩) (by exact Nat.succ_pos _) (by decide)
  exact ⟨m, b', e, h⟩
theorem bad_at {p : Plan} {cs ms : List Nat} {a c : Nat} (ha : a ≤ cs.length) (hc : c ∉ p.ls) (h : ∀ x ∈ cs, x ∈ p.ls) : (((cs.take a ++ [c]) ++ cs.drop a) ++ ms)[a]? = some c ∧ c ∉ (ruleOf p).ls ∧ ∀ i x, i < a → (((cs.take a ++ [c]) ++ cs.drop a) ++ ms)[i]? = some x → x ∈ (ruleOf p).ls := by
  have hl : (cs.take a ++ [c] ++ cs.drop a).length = cs.length + 1 := by simp; omega
  refine ⟨?_, hc, fun i x hi hx => ?_⟩
  · rw [List.getElem?_append_left (by omega)]
    exact getA ha
  · rw [List.getElem?_append_left (by omega)] at hx
    exact h x (List.mem_of_getElem? (getT hi ha hx))
set_option maxHeartbeats 16000000
theorem law_run {T : Nat → Addr} : LawOkT (h_law_K07 T) 9 (T 99) lamQ := by
  intro v b
  have hP := plan_run3 (b := b) (g := [.tbl 1 (T 99) lamQ]) (a := 5) (m := 4) (by decide) (by decide) (by decide) (by decide) (by decide)
  cases hP with | intro p hP => ?_
  cases hP with | intro b0 hP => ?_
  obtain ⟨eP, hp, hpn, hpl⟩ := hP
  have hr := hp.rok
  have hlen := isLet_len hp.l
  have hn2 := hp.n2
  have m1 : ∀ g, F_law_made T [dPlan p] g = .ok (dRule (T 0) (ruleOf p)) g := fun g => made_can hp
  have e4 : rng1 (dN 4) = some ((List.range 4).map dN) := rng1_n (by decide)
  simp only [EV1, EV2, EV3, EV4, EV5, EV6, EV7, EV8, EV9, EV10, EV11, EV12, EV13, EV14, EV15, EV16, EV17, EV18, EV19, EV20, EV21, EV22, EV23, vals, List.replicate, Nat.reduceBEq, Nat.reduceAdd, Nat.reduceLT, Nat.reduceSub, Nat.reduceMul, Nat.reduceLeDiff, Nat.reduceEqDiff, OP1, OP2, h_law_K07, EV24, EV25, EV26, EV27, EV28, eP, m1, e4]
  refine' Sat.stepI (loop_satJ (fun i ρ => ∃ (x4 x5 x6 x7 x8 x9 x10 : Option D) (b' : Box) (J : Cells), ρ = R07 T v p x4 x5 x6 x7 x8 x9 x10 b' J) (by exact ⟨none, none, none, none, none, none, none, b0, [], rfl⟩) (fun i d ρ hd hJ => ?_)) (fun o ρ hJ => ?_)
  · obtain ⟨x4, x5, x6, x7, x8, x9, x10, b1, J, hρ⟩ := hJ
    have hd2 := getMap hd
    cases hd2 with | intro k hd2 => ?_
    cases hd2 with | intro hk e => ?_
    have hT := text_runG (b := b1) (ls := p.ls) (m := 8) (by omega) (by omega) (by decide) (.tbl 1 (T 99) lamQ :: J)
    cases hT with | intro cs hT => ?_
    cases hT with | intro b2 hT => ?_
    obtain ⟨eT, hcl, hcs⟩ := hT
    have hU := text_runG (b := b2) (ls := p.ls) (m := 3) (by omega) (by omega) (by decide) (.tbl 1 (T 99) lamQ :: J)
    cases hU with | intro ms hU => ?_
    cases hU with | intro b3 hU => ?_
    obtain ⟨eU, hml, hms⟩ := hU
    have rlen : ∀ t, (relT (ruleOf p) t).length = p.n := fun t => relT_len
    have l1 : ∀ g, F_law_rel [dPlan p, dS cs] g = .ok (dRel (relT (ruleOf p) cs)) g := fun g => lrelS_run hp hcs
    have l2 : ∀ g, F_law_rel [dPlan p, dS ms] g = .ok (dRel (relT (ruleOf p) ms)) g := fun g => lrelS_run hp hms
    have r1 : ∀ g, F_Rule_relation T [dRule (T 0) (ruleOf p), dS cs] g = .ok (dRel (relT (ruleOf p) cs)) g := fun g => relation_run hr hcs
    have r2 : ∀ g, F_Rule_relation T [dRule (T 0) (ruleOf p), dS (cs ++ ms)] g = .ok (dRel (chainN (relT (ruleOf p) cs) (relT (ruleOf p) ms))) g := fun g => by
      rw [relation_run hr (fun c hc => (List.mem_append.mp hc).elim (hcs c) (hms c)), relT_cat hr hcs hms]
    have ch1 : ∀ g, F_law_chain [dRel (relT (ruleOf p) cs), dRel (relT (ruleOf p) ms)] g = .ok (dRel (chainN (relT (ruleOf p) cs) (relT (ruleOf p) ms))) g := fun g => lchain_run (by rw [rlen]; omega) (by rw [rlen]; omega)
    have k1 : ∀ g, F_law_like [dRel (relT (ruleOf p) cs), dRel (relT (ruleOf p) cs)] g = .ok (.bl true) g := fun g => like_run (lk_rel (by rw [rlen]; omega)) (by decide)
    have n1 : neD (dRel (relT (ruleOf p) cs)) (dRel (relT (ruleOf p) cs)) = some (.bl false) := ne_rel (by rw [rlen]; omega)
    have n2 : neD (dRel (chainN (relT (ruleOf p) cs) (relT (ruleOf p) ms))) (dRel (chainN (relT (ruleOf p) cs) (relT (ruleOf p) ms))) = some (.bl false) := ne_rel (by rw [chain_len, rlen]; omega)
    have z1 : cs.length < 100000 := by omega
    have ad0 : addD (dS cs) (dS ms) = some (dS (cs ++ ms)) := add_ss (by omega)
    have dr := fun g => draw_run (b := b3) (g := g) (m := cs.length + 1) (Nat.succ_pos _) (by omega)
    have dl := draw_lt (b := b3) (m := cs.length + 1) (Nat.succ_pos _)
    generalize b3.draw (cs.length + 1) = a at dr dl
    generalize b3.nx (cs.length + 1) = b4 at dr
    have ha : a ≤ cs.length := by omega
    have hC := bad_pick hp (b := b4)
    cases hC with | intro c hC => ?_
    cases hC with | intro b5 hC => ?_
    obtain ⟨eC, hc⟩ := hC
    have hE := tail_pick (b := b5)
    cases hE with | intro w hE => ?_
    cases hE with | intro b6 hE => ?_
    obtain ⟨eE, hw⟩ := hE
    have ad1 : addD (dS (cs.take a)) (dS [c]) = some (dS (cs.take a ++ [c])) := add_ss (by rw [List.length_take]; show min a cs.length + 1 < _; omega)
    have ad2 : addD (dS (cs.take a ++ [c])) (dS (cs.drop a)) = some (dS (cs.take a ++ [c] ++ cs.drop a)) := add_ss (by simp; omega)
    have ad3 : addD (dS (cs.take a ++ [c] ++ cs.drop a)) (dS w) = some (dS (cs.take a ++ [c] ++ cs.drop a ++ w)) := add_ss (by simp; omega)
    have hB := bad_at (ms := w) ha hc hcs
    generalize cs.take a ++ [c] ++ cs.drop a ++ w = bt at ad3 hB
    have hb : ∀ g, F_Rule_check_text T [dRule (T 0) (ruleOf p), dS bt] g = .ex (xnOf T 25 "at" "InvalidText" (dN a)) g := fun g => check_bad hB.1 hB.2.1 hB.2.2
    have q1 : ∀ g, F_Rule_relation T [dRule (T 0) (ruleOf p), dS bt] g = .ex (xnOf T 25 "at" "InvalidText" (dN a)) g := fun g => relation_bad hb
    have q2 : ∀ g P2 P3, F_Rule_run T [dRule (T 0) (ruleOf p), dS bt, P2, P3] g = .ex (xnOf T 25 "at" "InvalidText" (dN a)) g := fun g P2 P3 => run_bad hb
    have q3 : ∀ g, F_Rule_least_marking T [dRule (T 0) (ruleOf p), dS bt] g = .ex (xnOf T 25 "at" "InvalidText" (dN a)) g := fun g => least_bad hb hr
    have q4 : ∀ g, F_Rule___call__ T [dRule (T 0) (ruleOf p), dS bt] g = .ex (xnOf T 25 "at" "InvalidText" (dN a)) g := fun g => call_bad hb hr
    have q5 : ∀ g, F_Rule_how_many T [dRule (T 0) (ruleOf p), dS bt] g = .ex (xnOf T 25 "at" "InvalidText" (dN a)) g := fun g => many_bad hb
    have q6 : ∀ g P2, F_Rule_is_marking T [dRule (T 0) (ruleOf p), dS bt, P2] g = .ex (xnOf T 25 "at" "InvalidText" (dN a)) g := fun g P2 => ismark_bad hb
    have q7 : ∀ g, F_Rule___contains__ T [dRule (T 0) (ruleOf p), dS bt] g = .ex (xnOf T 25 "at" "InvalidText" (dN a)) g := fun g => cont_bad hb hr
    have q8 : ∀ g P2, exF (T 25) (F_Rule_markings_v2 T) [dRule (T 0) (ruleOf p), dS bt, P2] g = .ex (xnOf T 25 "at" "InvalidText" (dN a)) g := fun g P2 => exF_bad (markings_bad hb)
    have t1 : ∀ l ρ d, noOwn l = true → tellR (csN T [21, 22, 23, 24, 25, 39, 40, 45, 46]) F_law_field l (.ex (xnOf T 25 "at" "InvalidText" d) ρ) = .ok (.tup [.str "no", .str "InvalidText", d]) ⟨l, ρ.g⟩ := fun l ρ d h => tell_1 (mem_csN (by decide)) (by decide) h
    have rp : repO (.lst [.tup [.str "no", .str "InvalidText", dN a]]) (dN 8) = some (.lst [.tup [.str "no", .str "InvalidText", dN a], .tup [.str "no", .str "InvalidText", dN a], .tup [.str "no", .str "InvalidText", dN a], .tup [.str "no", .str "InvalidText", dN a], .tup [.str "no", .str "InvalidText", dN a], .tup [.str "no", .str "InvalidText", dN a], .tup [.str "no", .str "InvalidText", dN a], .tup [.str "no", .str "InvalidText", dN a]]) := rep_ln (by show 1 * 8 < _; decide) (by decide)
    have lkt : Lkk false 2 (.tup [.str "no", .str "InvalidText", dN a]) := lk_tup (by show 3 < 100000; decide) (lk_all_cons (lk_str (by decide +kernel)) (lk_all_cons (lk_str (by decide +kernel)) (lk_all_cons lk_int lk_all_nil)))
    have hne : neD (.lst [.tup [.str "no", .str "InvalidText", dN a], .tup [.str "no", .str "InvalidText", dN a], .tup [.str "no", .str "InvalidText", dN a], .tup [.str "no", .str "InvalidText", dN a], .tup [.str "no", .str "InvalidText", dN a], .tup [.str "no", .str "InvalidText", dN a], .tup [.str "no", .str "InvalidText", dN a], .tup [.str "no", .str "InvalidText", dN a]]) (.lst [.tup [.str "no", .str "InvalidText", dN a], .tup [.str "no", .str "InvalidText", dN a], .tup [.str "no", .str "InvalidText", dN a], .tup [.str "no", .str "InvalidText", dN a], .tup [.str "no", .str "InvalidText", dN a], .tup [.str "no", .str "InvalidText", dN a], .tup [.str "no", .str "InvalidText", dN a], .tup [.str "no", .str "InvalidText", dN a]]) = some (.bl false) := neD_refl (k := false) (n := 3) (lk_lst (by show 8 < 100000; decide) (lk_all_cons lkt (lk_all_cons lkt (lk_all_cons lkt (lk_all_cons lkt (lk_all_cons lkt (lk_all_cons lkt (lk_all_cons lkt (lk_all_cons lkt lk_all_nil))))))))) (by decide)
    subst hρ e
    simp only [EV1, EV2, EV3, EV4, EV5, EV6, EV7, EV8, EV9, EV10, EV11, EV12, EV13, EV14, EV15, EV16, EV17, EV18, EV19, EV20, EV21, EV22, EV23, vals, List.replicate, Nat.reduceBEq, Nat.reduceAdd, Nat.reduceLT, Nat.reduceSub, Nat.reduceMul, Nat.reduceLeDiff, Nat.reduceEqDiff, OP1, OP2, EV24, EV25, EV26, EV27, EV28, EV29, EV30, EV31, RU1, RU2, eT, eU, l1, l2, r1, r2, ch1, k1, n1, n2, ad0, len_s z1, dr, slS_to z1, slS_from z1, eC, eE, ad1, ad2, ad3, EV39, lgX_r, q1, q2, q3, q4, q5, q6, q7, q8, t1, noOwn_sO, kw07, cells2, cells2s, get_last, set_last, List.length_cons, rp, hne]
    refine ⟨by trivial, some (dN k), some (dS cs), some (dS ms), some (.tup [.str "no", .str "InvalidText", dN a]), some (dN a), some (dS bt), some (.ptr (J.length + 1 + 1)), b6, J ++ [.lst [.tup [.str "no", .str "InvalidText", dN a], .tup [.str "no", .str "InvalidText", dN a], .tup [.str "no", .str "InvalidText", dN a], .tup [.str "no", .str "InvalidText", dN a], .tup [.str "no", .str "InvalidText", dN a], .tup [.str "no", .str "InvalidText", dN a], .tup [.str "no", .str "InvalidText", dN a], .tup [.str "no", .str "InvalidText", dN a]]], ?_⟩
    exact Eq.refl _
  · obtain ⟨h0, x4, x5, x6, x7, x8, x9, x10, b1, J, hρ⟩ := hJ
    have rl : ∀ g, F_Rule_relation T [dRule (T 0) (ruleOf p), dS []] g = .ok (dRel (idN p.n)) g := fun g => relation_run hr (cs := []) (fun c hc => absurd hc List.not_mem_nil)
    have ls : ∀ g, F_law_same_rel [dN p.n] g = .ok (dRel (idN p.n)) g := fun g => lsame_run (by omega)
    have eq1 : eqD (dRel (idN p.n)) (dRel (idN p.n)) = some (.bl true) := eqD_refl (k := false) (n := 3) (lk_rel (by rw [id_len]; omega)) (by decide)
    subst h0 hρ
    simp only [EV1, EV2, EV3, EV4, EV5, EV6, EV7, EV8, EV9, EV10, EV11, EV12, EV13, EV14, EV15, EV16, EV17, EV18, EV19, EV20, EV21, EV22, EV23, vals, List.replicate, Nat.reduceBEq, Nat.reduceAdd, Nat.reduceLT, Nat.reduceSub, Nat.reduceMul, Nat.reduceLeDiff, Nat.reduceEqDiff, OP1, OP2, EV24, EV25, EV26, EV27, EV28, EV31, RU1, RU2, str0, rl, ls, eq1]
    try exact rfl
end Nc
namespace Nc
open PySem PySem.Spec PyProof.Rows L2
def topS (i : Nat) : Stmt := PySem.Challenge.pw_nearclerk_k07_relations_of_texts.main.body.getD i (.Pass ⟨0, 0, 0, 0⟩)
abbrev s_law_open : Stmt := topS 29
abbrev N_law_open : List Str := ["_law_script", "_law_cells", "_law_salt", "_law_cell"]
theorem sc_law_open : FnScope N_law_open ["_law_script"] (defScope s_law_open) := ⟨rfl, rfl, rfl, by decide +kernel, rfl, by decide +kernel, by decide +kernel⟩
abbrev s_law_pull : Stmt := topS 30
abbrev N_law_pull : List Str := ["_law_box", "_law_many", "_law_cell", "_law_one", "_law_two", "_law_drawn"]
theorem sc_law_pull : FnScope N_law_pull ["_law_box", "_law_many"] (defScope s_law_pull) := ⟨rfl, rfl, rfl, by decide +kernel, rfl, by decide +kernel, by decide +kernel⟩
abbrev s_law_pick : Stmt := topS 31
abbrev N_law_pick : List Str := ["_law_box", "_law_row"]
theorem sc_law_pick : FnScope N_law_pick ["_law_box", "_law_row"] (defScope s_law_pick) := ⟨rfl, rfl, rfl, by decide +kernel, rfl, by decide +kernel, by decide +kernel⟩
abbrev s_law_letters : Stmt := topS 35
abbrev N_law_letters : List Str := ["_law_box", "_law_many", "_law_rows"]
theorem sc_law_letters : FnScope N_law_letters ["_law_box", "_law_many"] (defScope s_law_letters) := ⟨rfl, rfl, rfl, by decide +kernel, rfl, by decide +kernel, by decide +kernel⟩
abbrev s_law_some : Stmt := topS 36
abbrev N_law_some : List Str := ["_law_box", "_law_many", "_law_one"]
theorem sc_law_some : FnScope N_law_some ["_law_box", "_law_many"] (defScope s_law_some) := ⟨rfl, rfl, rfl, by decide +kernel, rfl, by decide +kernel, by decide +kernel⟩
abbrev s_law_plan : Stmt := topS 37
abbrev N_law_plan : List Str := ["_law_box", "_law_most_states", "_law_most_letters", "_law_letters_here", "_law_many", "_law_way", "_law_steps", "_law_letter", "_law_one", "_law_ends", "_law_other"]
theorem sc_law_plan : FnScope N_law_plan ["_law_box", "_law_most_states", "_law_most_letters"] (defScope s_law_plan) := ⟨rfl, rfl, rfl, by decide +kernel, rfl, by decide +kernel, by decide +kernel⟩
abbrev s_is_letters : Stmt := topS 24
abbrev N_is_letters : List Str := ["value", "sign", "one", "other"]
theorem sc_is_letters : FnScope N_is_letters ["value"] (defScope s_is_letters) := ⟨rfl, rfl, rfl, by decide +kernel, rfl, by decide +kernel, by decide +kernel⟩
abbrev s_is_number : Stmt := topS 23
abbrev N_is_number : List Str := ["value", "least", "most"]
theorem sc_is_number : FnScope N_is_number ["value", "least", "most"] (defScope s_is_number) := ⟨rfl, rfl, rfl, by decide +kernel, rfl, by decide +kernel, by decide +kernel⟩
abbrev s_is_step : Stmt := topS 25
abbrev N_is_step : List Str := ["step", "letters", "states", "start", "letter", "end"]
theorem sc_is_step : FnScope N_is_step ["step", "letters", "states"] (defScope s_is_step) := ⟨rfl, rfl, rfl, by decide +kernel, rfl, by decide +kernel, by decide +kernel⟩
abbrev s_relation_of : Stmt := topS 14
abbrev N_relation_of : List Str := ["states", "pairs", "found", "state", "bits", "first", "second"]
theorem sc_relation_of : FnScope N_relation_of ["states", "pairs"] (defScope s_relation_of) := ⟨rfl, rfl, rfl, by decide +kernel, rfl, by decide +kernel, by decide +kernel⟩
abbrev s_Rule___init__ : Stmt := inClass (topS 27) 1
abbrev N_Rule___init__ : List Str := ["self", "letters", "states", "steps", "first", "last", "at", "step", "state", "letter", "one", "sign", "other"]
theorem sc_Rule___init__ : FnScope N_Rule___init__ ["self", "letters", "states", "steps", "first", "last"] (defScope s_Rule___init__) := ⟨rfl, rfl, rfl, by decide +kernel, rfl, by decide +kernel, by decide +kernel⟩
abbrev s_law_made : Stmt := topS 44
abbrev N_law_made : List Str := ["_law_plan_here"]
theorem sc_law_made : FnScope N_law_made ["_law_plan_here"] (defScope s_law_made) := ⟨rfl, rfl, rfl, by decide +kernel, rfl, by decide +kernel, by decide +kernel⟩
abbrev s_law_text : Stmt := topS 38
abbrev N_law_text : List Str := ["_law_box", "_law_letters_here", "_law_most", "_law_at"]
theorem sc_law_text : FnScope N_law_text ["_law_box", "_law_letters_here", "_law_most"] (defScope s_law_text) := ⟨rfl, rfl, rfl, by decide +kernel, rfl, by decide +kernel, by decide +kernel⟩
abbrev s_law_same_rel : Stmt := topS 42
abbrev N_law_same_rel : List Str := ["_law_many", "_law_state"]
theorem sc_law_same_rel : FnScope N_law_same_rel ["_law_many"] (defScope s_law_same_rel) := ⟨rfl, rfl, rfl, by decide +kernel, rfl, by decide +kernel, by decide +kernel⟩
abbrev s_law_image : Stmt := topS 40
abbrev N_law_image : List Str := ["_law_row", "_law_rel_here", "_law_found", "_law_state"]
theorem sc_law_image : FnScope N_law_image ["_law_row", "_law_rel_here"] (defScope s_law_image) := ⟨rfl, rfl, rfl, by decide +kernel, rfl, by decide +kernel, by decide +kernel⟩
abbrev s_law_chain : Stmt := topS 41
abbrev N_law_chain : List Str := ["_law_one", "_law_other", "_law_row"]
theorem sc_law_chain : FnScope N_law_chain ["_law_one", "_law_other"] (defScope s_law_chain) := ⟨rfl, rfl, rfl, by decide +kernel, rfl, by decide +kernel, by decide +kernel⟩
abbrev s_law_letter_rel : Stmt := topS 39
abbrev N_law_letter_rel : List Str := ["_law_plan_here", "_law_letter", "_law_rows", "_law_start", "_law_sign", "_law_end"]
theorem sc_law_letter_rel : FnScope N_law_letter_rel ["_law_plan_here", "_law_letter"] (defScope s_law_letter_rel) := ⟨rfl, rfl, rfl, by decide +kernel, rfl, by decide +kernel, by decide +kernel⟩
abbrev s_law_rel : Stmt := topS 43
abbrev N_law_rel : List Str := ["_law_plan_here", "_law_text_z", "_law_found", "_law_letter"]
theorem sc_law_rel : FnScope N_law_rel ["_law_plan_here", "_law_text_z"] (defScope s_law_rel) := ⟨rfl, rfl, rfl, by decide +kernel, rfl, by decide +kernel, by decide +kernel⟩
abbrev s_law_like : Stmt := topS 32
abbrev N_law_like : List Str := ["_law_found", "_law_due", "_law_at"]
theorem sc_law_like : FnScope N_law_like ["_law_found", "_law_due"] (defScope s_law_like) := ⟨rfl, rfl, rfl, by decide +kernel, rfl, by decide +kernel, by decide +kernel⟩
abbrev s_Rule_check_text : Stmt := inClass (topS 27) 9
abbrev N_Rule_check_text : List Str := ["self", "text", "at", "sign"]
theorem sc_Rule_check_text : FnScope N_Rule_check_text ["self", "text"] (defScope s_Rule_check_text) := ⟨rfl, rfl, rfl, by decide +kernel, rfl, by decide +kernel, by decide +kernel⟩
abbrev s_identity : Stmt := topS 13
abbrev N_identity : List Str := ["states", "state"]
theorem sc_identity : FnScope N_identity ["states"] (defScope s_identity) := ⟨rfl, rfl, rfl, by decide +kernel, rfl, by decide +kernel, by decide +kernel⟩
abbrev s_bits_of : Stmt := topS 15
abbrev N_bits_of : List Str := ["row", "states", "state"]
theorem sc_bits_of : FnScope N_bits_of ["row", "states"] (defScope s_bits_of) := ⟨rfl, rfl, rfl, by decide +kernel, rfl, by decide +kernel, by decide +kernel⟩
abbrev s_image : Stmt := topS 17
abbrev N_image : List Str := ["row", "relation", "found", "state"]
theorem sc_image : FnScope N_image ["row", "relation"] (defScope s_image) := ⟨rfl, rfl, rfl, by decide +kernel, rfl, by decide +kernel, by decide +kernel⟩
abbrev s_joined : Stmt := topS 18
abbrev N_joined : List Str := ["one", "other", "row"]
theorem sc_joined : FnScope N_joined ["one", "other"] (defScope s_joined) := ⟨rfl, rfl, rfl, by decide +kernel, rfl, by decide +kernel, by decide +kernel⟩
abbrev s_Rule_relation : Stmt := inClass (topS 27) 10
abbrev N_Rule_relation : List Str := ["self", "text", "found", "letter"]
theorem sc_Rule_relation : FnScope N_Rule_relation ["self", "text"] (defScope s_Rule_relation) := ⟨rfl, rfl, rfl, by decide +kernel, rfl, by decide +kernel, by decide +kernel⟩
abbrev s_Rule_ahead : Stmt := inClass (topS 27) 11
abbrev N_Rule_ahead : List Str := ["self", "text", "ends", "found", "letter", "rows", "state"]
theorem sc_Rule_ahead : FnScope N_Rule_ahead ["self", "text", "ends"] (defScope s_Rule_ahead) := ⟨rfl, rfl, rfl, by decide +kernel, rfl, by decide +kernel, by decide +kernel⟩
abbrev s_Rule_run : Stmt := inClass (topS 27) 12
abbrev N_Rule_run : List Str := ["self", "text", "starts", "ends", "last", "good", "here", "found", "at", "letter", "state"]
theorem sc_Rule_run : FnScope N_Rule_run ["self", "text", "starts", "ends"] (defScope s_Rule_run) := ⟨rfl, rfl, rfl, by decide +kernel, rfl, by decide +kernel, by decide +kernel⟩
abbrev s_Rule_first : Stmt := inClass (topS 27) 7
abbrev N_Rule_first : List Str := ["self"]
theorem sc_Rule_first : FnScope N_Rule_first ["self"] (defScope s_Rule_first) := ⟨rfl, rfl, rfl, by decide +kernel, rfl, by decide +kernel, by decide +kernel⟩
abbrev s_Rule_last : Stmt := inClass (topS 27) 8
abbrev N_Rule_last : List Str := ["self"]
theorem sc_Rule_last : FnScope N_Rule_last ["self"] (defScope s_Rule_last) := ⟨rfl, rfl, rfl, by decide +kernel, rfl, by decide +kernel, by decide +kernel⟩
abbrev s_Rule_least_marking : Stmt := inClass (topS 27) 13
abbrev N_Rule_least_marking : List Str := ["self", "text"]
theorem sc_Rule_least_marking : FnScope N_Rule_least_marking ["self", "text"] (defScope s_Rule_least_marking) := ⟨rfl, rfl, rfl, by decide +kernel, rfl, by decide +kernel, by decide +kernel⟩
abbrev s_Rule___call__ : Stmt := inClass (topS 27) 14
abbrev N_Rule___call__ : List Str := ["self", "text"]
theorem sc_Rule___call__ : FnScope N_Rule___call__ ["self", "text"] (defScope s_Rule___call__) := ⟨rfl, rfl, rfl, by decide +kernel, rfl, by decide +kernel, by decide +kernel⟩
abbrev s_is_related : Stmt := topS 16
abbrev N_is_related : List Str := ["relation", "first", "second"]
theorem sc_is_related : FnScope N_is_related ["relation", "first", "second"] (defScope s_is_related) := ⟨rfl, rfl, rfl, by decide +kernel, rfl, by decide +kernel, by decide +kernel⟩
abbrev s_Rule_how_many : Stmt := inClass (topS 27) 16
abbrev N_Rule_how_many : List Str := ["self", "text", "counts", "letter", "rows", "state", "other", "one"]
theorem sc_Rule_how_many : FnScope N_Rule_how_many ["self", "text"] (defScope s_Rule_how_many) := ⟨rfl, rfl, rfl, by decide +kernel, rfl, by decide +kernel, by decide +kernel⟩
abbrev s_Rule_states : Stmt := inClass (topS 27) 4
abbrev N_Rule_states : List Str := ["self"]
theorem sc_Rule_states : FnScope N_Rule_states ["self"] (defScope s_Rule_states) := ⟨rfl, rfl, rfl, by decide +kernel, rfl, by decide +kernel, by decide +kernel⟩
abbrev s_is_run : Stmt := topS 26
abbrev N_is_run : List Str := ["rule", "text", "states", "state", "at"]
theorem sc_is_run : FnScope N_is_run ["rule", "text", "states"] (defScope s_is_run) := ⟨rfl, rfl, rfl, by decide +kernel, rfl, by decide +kernel, by decide +kernel⟩
abbrev s_Rule_is_marking : Stmt := inClass (topS 27) 17
abbrev N_Rule_is_marking : List Str := ["self", "text", "marking"]
theorem sc_Rule_is_marking : FnScope N_Rule_is_marking ["self", "text", "marking"] (defScope s_Rule_is_marking) := ⟨rfl, rfl, rfl, by decide +kernel, rfl, by decide +kernel, by decide +kernel⟩
abbrev s_Rule___contains__ : Stmt := inClass (topS 27) 18
abbrev N_Rule___contains__ : List Str := ["self", "text"]
theorem sc_Rule___contains__ : FnScope N_Rule___contains__ ["self", "text"] (defScope s_Rule___contains__) := ⟨rfl, rfl, rfl, by decide +kernel, rfl, by decide +kernel, by decide +kernel⟩
abbrev s_Rule_markings : Stmt := inClass (topS 27) 15
abbrev N_Rule_markings : List Str := ["self", "text", "most", "good", "given", "waiting", "found", "row", "state"]
theorem sc_Rule_markings : GScope N_Rule_markings ["self", "text", "most"] (defScope s_Rule_markings) := ⟨rfl, rfl, rfl, by decide +kernel, rfl, by decide +kernel, by decide +kernel⟩
abbrev s_law : Stmt := topS 45
abbrev N_law : List Str := ["_law_script", "_law_box", "_law_plan_here", "_law_rule_z", "_law_turn", "_law_text_z", "_law_more", "_law_due", "_law_at", "_law_bad", "_law_asks"]
theorem sc_law : FnScope N_law ["_law_script"] (defScope s_law) := ⟨rfl, rfl, rfl, by decide +kernel, rfl, by decide +kernel, by decide +kernel⟩
abbrev s_law_told : Stmt := topS 34
abbrev N_law_told : List Str := ["_law_ask", "_law_e"]
theorem sc_law_told : FnScope N_law_told ["_law_ask"] (defScope s_law_told) := ⟨rfl, rfl, rfl, by decide +kernel, rfl, by decide +kernel, by decide +kernel⟩
abbrev s_law_field : Stmt := topS 33
abbrev N_law_field : List Str := ["_law_e"]
theorem sc_law_field : FnScope N_law_field ["_law_e"] (defScope s_law_field) := ⟨rfl, rfl, rfl, by decide +kernel, rfl, by decide +kernel, by decide +kernel⟩
abbrev s_InvalidCount : Stmt := inClass (topS 4) 0
theorem te_InvalidCount : ErrD1 s_InvalidCount "InvalidCount.__init__" "given" "the number of states is not valid" "InvalidCount" := ⟨_, _, _, _, _, _, _, _, _, _, _, _, _, _, _, _, rfl, ⟨rfl, rfl, rfl, by decide +kernel, by decide +kernel, by decide +kernel, by decide +kernel, ⟨_, rfl, rfl⟩, fun _ _ _ _ => ⟨_, rfl⟩, fun _ _ _ _ => rfl, fun _ _ _ _ => rfl⟩, fun _ _ _ _ => rfl, fun _ _ _ _ => rfl⟩
abbrev s_InvalidLetters : Stmt := inClass (topS 3) 0
theorem te_InvalidLetters : ErrD1 s_InvalidLetters "InvalidLetters.__init__" "given" "the letters are not valid" "InvalidLetters" := ⟨_, _, _, _, _, _, _, _, _, _, _, _, _, _, _, _, rfl, ⟨rfl, rfl, rfl, by decide +kernel, by decide +kernel, by decide +kernel, by decide +kernel, ⟨_, rfl, rfl⟩, fun _ _ _ _ => ⟨_, rfl⟩, fun _ _ _ _ => rfl, fun _ _ _ _ => rfl⟩, fun _ _ _ _ => rfl, fun _ _ _ _ => rfl⟩
abbrev s_InvalidState : Stmt := inClass (topS 6) 0
theorem te_InvalidState : ErrD1 s_InvalidState "InvalidState.__init__" "given" "there is no such state" "InvalidState" := ⟨_, _, _, _, _, _, _, _, _, _, _, _, _, _, _, _, rfl, ⟨rfl, rfl, rfl, by decide +kernel, by decide +kernel, by decide +kernel, by decide +kernel, ⟨_, rfl, rfl⟩, fun _ _ _ _ => ⟨_, rfl⟩, fun _ _ _ _ => rfl, fun _ _ _ _ => rfl⟩, fun _ _ _ _ => rfl, fun _ _ _ _ => rfl⟩
abbrev s_InvalidStep : Stmt := inClass (topS 5) 0
theorem te_InvalidStep : ErrD1 s_InvalidStep "InvalidStep.__init__" "at" "a step is not valid" "InvalidStep" := ⟨_, _, _, _, _, _, _, _, _, _, _, _, _, _, _, _, rfl, ⟨rfl, rfl, rfl, by decide +kernel, by decide +kernel, by decide +kernel, by decide +kernel, ⟨_, rfl, rfl⟩, fun _ _ _ _ => ⟨_, rfl⟩, fun _ _ _ _ => rfl, fun _ _ _ _ => rfl⟩, fun _ _ _ _ => rfl, fun _ _ _ _ => rfl⟩
abbrev s_InvalidText : Stmt := inClass (topS 7) 0
theorem te_InvalidText : ErrD1 s_InvalidText "InvalidText.__init__" "at" "a character is no letter of the rule" "InvalidText" := ⟨_, _, _, _, _, _, _, _, _, _, _, _, _, _, _, _, rfl, ⟨rfl, rfl, rfl, by decide +kernel, by decide +kernel, by decide +kernel, by decide +kernel, ⟨_, rfl, rfl⟩, fun _ _ _ _ => ⟨_, rfl⟩, fun _ _ _ _ => rfl, fun _ _ _ _ => rfl⟩, fun _ _ _ _ => rfl, fun _ _ _ _ => rfl⟩
/-- what the top leaves -/
structure Facts (P : Program) (K : PySem.W.Frag) (mg : Str → Option Value) (T : Nat → Addr) where
  f_law_open : Addr
  fd_law_open : FuncData
  U_law_open : Fun K "_law_open" "_law_open" s_law_open f_law_open fd_law_open
  g_law_open : mg "_law_open" = some (.ref f_law_open)
  f_law_pull : Addr
  fd_law_pull : FuncData
  U_law_pull : Fun K "_law_pull" "_law_pull" s_law_pull f_law_pull fd_law_pull
  g_law_pull : mg "_law_pull" = some (.ref f_law_pull)
  f_law_pick : Addr
  fd_law_pick : FuncData
  U_law_pick : Fun K "_law_pick" "_law_pick" s_law_pick f_law_pick fd_law_pick
  g_law_pick : mg "_law_pick" = some (.ref f_law_pick)
  f_law_letters : Addr
  fd_law_letters : FuncData
  U_law_letters : Fun K "_law_letters" "_law_letters" s_law_letters f_law_letters fd_law_letters
  g_law_letters : mg "_law_letters" = some (.ref f_law_letters)
  f_law_some : Addr
  fd_law_some : FuncData
  U_law_some : Fun K "_law_some" "_law_some" s_law_some f_law_some fd_law_some
  g_law_some : mg "_law_some" = some (.ref f_law_some)
  f_law_plan : Addr
  fd_law_plan : FuncData
  U_law_plan : Fun K "_law_plan" "_law_plan" s_law_plan f_law_plan fd_law_plan
  g_law_plan : mg "_law_plan" = some (.ref f_law_plan)
  f_is_letters : Addr
  fd_is_letters : FuncData
  U_is_letters : Fun K "is_letters" "is_letters" s_is_letters f_is_letters fd_is_letters
  g_is_letters : mg "is_letters" = some (.ref f_is_letters)
  f_is_number : Addr
  fd_is_number : FuncData
  U_is_number : Fun K "is_number" "is_number" s_is_number f_is_number fd_is_number
  g_is_number : mg "is_number" = some (.ref f_is_number)
  f_is_step : Addr
  fd_is_step : FuncData
  U_is_step : Fun K "is_step" "is_step" s_is_step f_is_step fd_is_step
  g_is_step : mg "is_step" = some (.ref f_is_step)
  f_relation_of : Addr
  fd_relation_of : FuncData
  U_relation_of : Fun K "relation_of" "relation_of" s_relation_of f_relation_of fd_relation_of
  g_relation_of : mg "relation_of" = some (.ref f_relation_of)
  f_Rule___init__ : Addr
  fd_Rule___init__ : FuncData
  U_Rule___init__ : Fun K "__init__" "Rule.__init__" s_Rule___init__ f_Rule___init__ fd_Rule___init__
  mk_Rule : Mk K (T 0) f_Rule___init__
  f_law_made : Addr
  fd_law_made : FuncData
  U_law_made : Fun K "_law_made" "_law_made" s_law_made f_law_made fd_law_made
  g_law_made : mg "_law_made" = some (.ref f_law_made)
  f_law_text : Addr
  fd_law_text : FuncData
  U_law_text : Fun K "_law_text" "_law_text" s_law_text f_law_text fd_law_text
  g_law_text : mg "_law_text" = some (.ref f_law_text)
  f_law_same_rel : Addr
  fd_law_same_rel : FuncData
  U_law_same_rel : Fun K "_law_same_rel" "_law_same_rel" s_law_same_rel f_law_same_rel fd_law_same_rel
  g_law_same_rel : mg "_law_same_rel" = some (.ref f_law_same_rel)
  f_law_image : Addr
  fd_law_image : FuncData
  U_law_image : Fun K "_law_image" "_law_image" s_law_image f_law_image fd_law_image
  g_law_image : mg "_law_image" = some (.ref f_law_image)
  f_law_chain : Addr
  fd_law_chain : FuncData
  U_law_chain : Fun K "_law_chain" "_law_chain" s_law_chain f_law_chain fd_law_chain
  g_law_chain : mg "_law_chain" = some (.ref f_law_chain)
  f_law_letter_rel : Addr
  fd_law_letter_rel : FuncData
  U_law_letter_rel : Fun K "_law_letter_rel" "_law_letter_rel" s_law_letter_rel f_law_letter_rel fd_law_letter_rel
  g_law_letter_rel : mg "_law_letter_rel" = some (.ref f_law_letter_rel)
  f_law_rel : Addr
  fd_law_rel : FuncData
  U_law_rel : Fun K "_law_rel" "_law_rel" s_law_rel f_law_rel fd_law_rel
  g_law_rel : mg "_law_rel" = some (.ref f_law_rel)
  f_law_like : Addr
  fd_law_like : FuncData
  U_law_like : Fun K "_law_like" "_law_like" s_law_like f_law_like fd_law_like
  g_law_like : mg "_law_like" = some (.ref f_law_like)
  f_Rule_check_text : Addr
  fd_Rule_check_text : FuncData
  U_Rule_check_text : Fun K "check_text" "Rule.check_text" s_Rule_check_text f_Rule_check_text fd_Rule_check_text
  me_Rule_check_text : Meth K (T 0) "check_text" f_Rule_check_text
  f_identity : Addr
  fd_identity : FuncData
  U_identity : Fun K "identity" "identity" s_identity f_identity fd_identity
  g_identity : mg "identity" = some (.ref f_identity)
  f_bits_of : Addr
  fd_bits_of : FuncData
  U_bits_of : Fun K "bits_of" "bits_of" s_bits_of f_bits_of fd_bits_of
  g_bits_of : mg "bits_of" = some (.ref f_bits_of)
  f_image : Addr
  fd_image : FuncData
  U_image : Fun K "image" "image" s_image f_image fd_image
  g_image : mg "image" = some (.ref f_image)
  f_joined : Addr
  fd_joined : FuncData
  U_joined : Fun K "joined" "joined" s_joined f_joined fd_joined
  g_joined : mg "joined" = some (.ref f_joined)
  f_Rule_relation : Addr
  fd_Rule_relation : FuncData
  U_Rule_relation : Fun K "relation" "Rule.relation" s_Rule_relation f_Rule_relation fd_Rule_relation
  me_Rule_relation : Meth K (T 0) "relation" f_Rule_relation
  f_Rule_ahead : Addr
  fd_Rule_ahead : FuncData
  U_Rule_ahead : Fun K "ahead" "Rule.ahead" s_Rule_ahead f_Rule_ahead fd_Rule_ahead
  me_Rule_ahead : Meth K (T 0) "ahead" f_Rule_ahead
  f_Rule_run : Addr
  fd_Rule_run : FuncData
  U_Rule_run : Fun K "run" "Rule.run" s_Rule_run f_Rule_run fd_Rule_run
  me_Rule_run : Meth K (T 0) "run" f_Rule_run
  f_Rule_first : Addr
  fd_Rule_first : FuncData
  U_Rule_first : Fun K "first" "Rule.first" s_Rule_first f_Rule_first fd_Rule_first
  me_Rule_first : Meth K (T 0) "first" f_Rule_first
  f_Rule_last : Addr
  fd_Rule_last : FuncData
  U_Rule_last : Fun K "last" "Rule.last" s_Rule_last f_Rule_last fd_Rule_last
  me_Rule_last : Meth K (T 0) "last" f_Rule_last
  f_Rule_least_marking : Addr
  fd_Rule_least_marking : FuncData
  U_Rule_least_marking : Fun K "least_marking" "Rule.least_marking" s_Rule_least_marking f_Rule_least_marking fd_Rule_least_marking
  me_Rule_least_marking : Meth K (T 0) "least_marking" f_Rule_least_marking
  f_Rule___call__ : Addr
  fd_Rule___call__ : FuncData
  U_Rule___call__ : Fun K "__call__" "Rule.__call__" s_Rule___call__ f_Rule___call__ fd_Rule___call__
  co_Rule : StX.CallO K (T 0) f_Rule___call__
  f_is_related : Addr
  fd_is_related : FuncData
  U_is_related : Fun K "is_related" "is_related" s_is_related f_is_related fd_is_related
  g_is_related : mg "is_related" = some (.ref f_is_related)
  f_Rule_how_many : Addr
  fd_Rule_how_many : FuncData
  U_Rule_how_many : Fun K "how_many" "Rule.how_many" s_Rule_how_many f_Rule_how_many fd_Rule_how_many
  me_Rule_how_many : Meth K (T 0) "how_many" f_Rule_how_many
  f_Rule_states : Addr
  fd_Rule_states : FuncData
  U_Rule_states : Fun K "states" "Rule.states" s_Rule_states f_Rule_states fd_Rule_states
  p_Rule_states : Addr
  pr_Rule_states : PropOf K (T 0) "states" p_Rule_states f_Rule_states
  f_is_run : Addr
  fd_is_run : FuncData
  U_is_run : Fun K "is_run" "is_run" s_is_run f_is_run fd_is_run
  g_is_run : mg "is_run" = some (.ref f_is_run)
  f_Rule_is_marking : Addr
  fd_Rule_is_marking : FuncData
  U_Rule_is_marking : Fun K "is_marking" "Rule.is_marking" s_Rule_is_marking f_Rule_is_marking fd_Rule_is_marking
  me_Rule_is_marking : Meth K (T 0) "is_marking" f_Rule_is_marking
  f_Rule___contains__ : Addr
  fd_Rule___contains__ : FuncData
  U_Rule___contains__ : Fun K "__contains__" "Rule.__contains__" s_Rule___contains__ f_Rule___contains__ fd_Rule___contains__
  ct_Rule : PySem.W.findIn K (.ref (T 0)) "__contains__" = some (some (.ref f_Rule___contains__))
  ctf_Rule : PySem.W.isFn K (.ref f_Rule___contains__) = true
  f_Rule_markings : Addr
  fd_Rule_markings : FuncData
  U_Rule_markings : FunD K "markings" "Rule.markings" (defArgs s_Rule_markings) (defBody s_Rule_markings) (defScope s_Rule_markings) [] [("most", .int ((100 : Nat) : Int))] f_Rule_markings fd_Rule_markings
  me_Rule_markings : Meth K (T 0) "markings" f_Rule_markings
  f_law : Addr
  fd_law : FuncData
  U_law : Fun K "law" "law" s_law f_law fd_law
  g_law : mg "law" = some (.ref f_law)
  fe_InvalidCount : Addr
  fde_InvalidCount : FuncData
  ec_InvalidCount : ErrC P K mg (T 22) fe_InvalidCount s_InvalidCount "InvalidCount.__init__" fde_InvalidCount
  ei_InvalidCount : PySem.W.findIn K (.ref (T 22)) "__init__" = some (some (.ref fe_InvalidCount))
  et_InvalidCount : PySem.W.typeIn K (.ref fe_InvalidCount) = some (.type "function")
  g_InvalidCount : mg "InvalidCount" = some (.ref (T 22))
  en_InvalidCount_given : PySem.W.findIn K (.ref (T 22)) "given" = some none
  en_InvalidCount_code : PySem.W.findIn K (.ref (T 22)) "code" = some none
  fe_InvalidLetters : Addr
  fde_InvalidLetters : FuncData
  ec_InvalidLetters : ErrC P K mg (T 21) fe_InvalidLetters s_InvalidLetters "InvalidLetters.__init__" fde_InvalidLetters
  ei_InvalidLetters : PySem.W.findIn K (.ref (T 21)) "__init__" = some (some (.ref fe_InvalidLetters))
  et_InvalidLetters : PySem.W.typeIn K (.ref fe_InvalidLetters) = some (.type "function")
  g_InvalidLetters : mg "InvalidLetters" = some (.ref (T 21))
  en_InvalidLetters_given : PySem.W.findIn K (.ref (T 21)) "given" = some none
  en_InvalidLetters_code : PySem.W.findIn K (.ref (T 21)) "code" = some none
  fe_InvalidState : Addr
  fde_InvalidState : FuncData
  ec_InvalidState : ErrC P K mg (T 24) fe_InvalidState s_InvalidState "InvalidState.__init__" fde_InvalidState
  ei_InvalidState : PySem.W.findIn K (.ref (T 24)) "__init__" = some (some (.ref fe_InvalidState))
  et_InvalidState : PySem.W.typeIn K (.ref fe_InvalidState) = some (.type "function")
  g_InvalidState : mg "InvalidState" = some (.ref (T 24))
  en_InvalidState_given : PySem.W.findIn K (.ref (T 24)) "given" = some none
  en_InvalidState_code : PySem.W.findIn K (.ref (T 24)) "code" = some none
  fe_InvalidStep : Addr
  fde_InvalidStep : FuncData
  ec_InvalidStep : ErrC P K mg (T 23) fe_InvalidStep s_InvalidStep "InvalidStep.__init__" fde_InvalidStep
  ei_InvalidStep : PySem.W.findIn K (.ref (T 23)) "__init__" = some (some (.ref fe_InvalidStep))
  et_InvalidStep : PySem.W.typeIn K (.ref fe_InvalidStep) = some (.type "function")
  g_InvalidStep : mg "InvalidStep" = some (.ref (T 23))
  en_InvalidStep_at : PySem.W.findIn K (.ref (T 23)) "at" = some none
  en_InvalidStep_code : PySem.W.findIn K (.ref (T 23)) "code" = some none
  fe_InvalidText : Addr
  fde_InvalidText : FuncData
  ec_InvalidText : ErrC P K mg (T 25) fe_InvalidText s_InvalidText "InvalidText.__init__" fde_InvalidText
  ei_InvalidText : PySem.W.findIn K (.ref (T 25)) "__init__" = some (some (.ref fe_InvalidText))
  et_InvalidText : PySem.W.typeIn K (.ref fe_InvalidText) = some (.type "function")
  g_InvalidText : mg "InvalidText" = some (.ref (T 25))
  en_InvalidText_at : PySem.W.findIn K (.ref (T 25)) "at" = some none
  en_InvalidText_code : PySem.W.findIn K (.ref (T 25)) "code" = some none
  cls_Rule : Cls K (T 0)
  g_Rule : mg "Rule" = some (.ref (T 0))
  na_Rule_by_letter : NoAttr K (T 0) "by_letter"
  na_Rule_first_bits : NoAttr K (T 0) "first_bits"
  na_Rule_last_bits : NoAttr K (T 0) "last_bits"
  na_Rule_own_letters : NoAttr K (T 0) "own_letters"
  na_Rule_own_states : NoAttr K (T 0) "own_states"
  na_Rule_rows : NoAttr K (T 0) "rows"
  mc_Rule : Value
  cr_Rule : ClX.CRead K (T 0) mc_Rule
  cu_Rule_MOST : Value
  cv_Rule_MOST : ClX.CVal K (T 0) mc_Rule "MOST" (.int ((12 : Nat) : Int)) cu_Rule_MOST
  v_MOST_LETTERS : ∃ u, mg "MOST_LETTERS" = some u ∧ RelV (.int ((4 : Nat) : Int)) u
  v_SMALL : ∃ u, mg "SMALL" = some u ∧ RelV (.str "abcdefghijklmnopqrstuvwxyz") u
  m_all : mg "all" = none
  m_bool : mg "bool" = none
  m_enumerate : mg "enumerate" = none
  m_int : mg "int" = none
  m_isinstance : mg "isinstance" = none
  m_len : mg "len" = none
  m_list : mg "list" = none
  m_range : mg "range" = none
  m_sorted : mg "sorted" = none
  m_str : mg "str" = none
  m_sum : mg "sum" = none
  m_tuple : mg "tuple" = none
  m_zip : mg "zip" = none
  xa : excAllB K (csN T [21, 22, 23, 24, 25, 39, 40, 45, 46]) = true
  nf_at : noFldB K (csN T [21, 22, 23, 24, 25, 39, 40, 45, 46]) "at" = true
  nf_bound : noFldB K (csN T [21, 22, 23, 24, 25, 39, 40, 45, 46]) "bound" = true
  nf_code : noFldB K (csN T [21, 22, 23, 24, 25, 39, 40, 45, 46]) "code" = true
  nf_given : noFldB K (csN T [21, 22, 23, 24, 25, 39, 40, 45, 46]) "given" = true
  nf_lacking : noFldB K (csN T [21, 22, 23, 24, 25, 39, 40, 45, 46]) "lacking" = true
  nf_name : noFldB K (csN T [21, 22, 23, 24, 25, 39, 40, 45, 46]) "name" = true
  g_TooLarge : mg "TooLarge" = some (.ref (T 39))
  g_Unlike : mg "Unlike" = some (.ref (T 40))
  g_UnknownName : mg "UnknownName" = some (.ref (T 45))
  g_NothingLeft : mg "NothingLeft" = some (.ref (T 46))
  g_NearError : mg "NearError" = some (.ref (T 20))
  nst_InvalidText : nstB K (T 25) = true
  f_law_told : Addr
  fd_law_told : FuncData
  U_law_told : Fun K "_law_told" "_law_told" s_law_told f_law_told fd_law_told
  g_law_told : mg "_law_told" = some (.ref f_law_told)
  f_law_field : Addr
  fd_law_field : FuncData
  U_law_field : Fun K "_law_field" "_law_field" s_law_field f_law_field fd_law_field
  g_law_field : mg "_law_field" = some (.ref f_law_field)
  exm : exmAllB K (csN T [21, 22, 23, 24, 25, 39, 40, 45, 46]) [.ref (T 20), .ref (T 45), .ref (T 46)] = true
  lc : Addr
  hlc : fd_law.code = .ref lc
section
variable {P : Program} {w : World} {K : PySem.W.Frag} {mg : Str → Option Value} {T : Nat → Addr} {base : Heap}
theorem Facts.xf_at (W : Facts P K mg T) : ∀ C ∈ csN T [21, 22, 23, 24, 25, 39, 40, 45, 46], XfC K C ∧ PySem.W.findIn K (.ref C) "at" = some none := xf_of W.xa (by decide) W.nf_at
theorem Facts.xf_bound (W : Facts P K mg T) : ∀ C ∈ csN T [21, 22, 23, 24, 25, 39, 40, 45, 46], XfC K C ∧ PySem.W.findIn K (.ref C) "bound" = some none := xf_of W.xa (by decide) W.nf_bound
theorem Facts.xf_code (W : Facts P K mg T) : ∀ C ∈ csN T [21, 22, 23, 24, 25, 39, 40, 45, 46], XfC K C ∧ PySem.W.findIn K (.ref C) "code" = some none := xf_of W.xa (by decide) W.nf_code
theorem Facts.xf_given (W : Facts P K mg T) : ∀ C ∈ csN T [21, 22, 23, 24, 25, 39, 40, 45, 46], XfC K C ∧ PySem.W.findIn K (.ref C) "given" = some none := xf_of W.xa (by decide) W.nf_given
theorem Facts.xf_lacking (W : Facts P K mg T) : ∀ C ∈ csN T [21, 22, 23, 24, 25, 39, 40, 45, 46], XfC K C ∧ PySem.W.findIn K (.ref C) "lacking" = some none := xf_of W.xa (by decide) W.nf_lacking
theorem Facts.xf_name (W : Facts P K mg T) : ∀ C ∈ csN T [21, 22, 23, 24, 25, 39, 40, 45, 46], XfC K C ∧ PySem.W.findIn K (.ref C) "name" = some none := xf_of W.xa (by decide) W.nf_name
theorem ok_err_InvalidCount (W : Facts P K mg T) : FnOk P w K mg base (L2.CX P w) 1 W.fe_InvalidCount W.fde_InvalidCount ["self", "given"] (spErr K (T 22) (some "given") "InvalidCount") := errOkD1 W.ec_InvalidCount te_InvalidCount W.en_InvalidCount_given W.en_InvalidCount_code (by decide) (by decide)
theorem eb_InvalidCount (W : Facts P K mg T) : Binds K W.fde_InvalidCount ["self", "given"] [] := errB W.ec_InvalidCount (ps := ["self", "given"]) fun _ _ _ _ _ _ _ us hl => match us, hl with | [_, _], _ => rfl
theorem ok_err_InvalidLetters (W : Facts P K mg T) : FnOk P w K mg base (L2.CX P w) 1 W.fe_InvalidLetters W.fde_InvalidLetters ["self", "given"] (spErr K (T 21) (some "given") "InvalidLetters") := errOkD1 W.ec_InvalidLetters te_InvalidLetters W.en_InvalidLetters_given W.en_InvalidLetters_code (by decide) (by decide)
theorem eb_InvalidLetters (W : Facts P K mg T) : Binds K W.fde_InvalidLetters ["self", "given"] [] := errB W.ec_InvalidLetters (ps := ["self", "given"]) fun _ _ _ _ _ _ _ us hl => match us, hl with | [_, _], _ => rfl
theorem ok_err_InvalidState (W : Facts P K mg T) : FnOk P w K mg base (L2.CX P w) 1 W.fe_InvalidState W.fde_InvalidState ["self", "given"] (spErr K (T 24) (some "given") "InvalidState") := errOkD1 W.ec_InvalidState te_InvalidState W.en_InvalidState_given W.en_InvalidState_code (by decide) (by decide)
theorem eb_InvalidState (W : Facts P K mg T) : Binds K W.fde_InvalidState ["self", "given"] [] := errB W.ec_InvalidState (ps := ["self", "given"]) fun _ _ _ _ _ _ _ us hl => match us, hl with | [_, _], _ => rfl
theorem ok_err_InvalidStep (W : Facts P K mg T) : FnOk P w K mg base (L2.CX P w) 1 W.fe_InvalidStep W.fde_InvalidStep ["self", "at"] (spErr K (T 23) (some "at") "InvalidStep") := errOkD1 W.ec_InvalidStep te_InvalidStep W.en_InvalidStep_at W.en_InvalidStep_code (by decide) (by decide)
theorem eb_InvalidStep (W : Facts P K mg T) : Binds K W.fde_InvalidStep ["self", "at"] [] := errB W.ec_InvalidStep (ps := ["self", "at"]) fun _ _ _ _ _ _ _ us hl => match us, hl with | [_, _], _ => rfl
theorem ok_err_InvalidText (W : Facts P K mg T) : FnOk P w K mg base (L2.CX P w) 1 W.fe_InvalidText W.fde_InvalidText ["self", "at"] (spErr K (T 25) (some "at") "InvalidText") := errOkD1 W.ec_InvalidText te_InvalidText W.en_InvalidText_at W.en_InvalidText_code (by decide) (by decide)
theorem eb_InvalidText (W : Facts P K mg T) : Binds K W.fde_InvalidText ["self", "at"] [] := errB W.ec_InvalidText (ps := ["self", "at"]) fun _ _ _ _ _ _ _ us hl => match us, hl with | [_, _], _ => rfl
theorem Facts.kp_law_open (W : Facts P K mg T) : PySem.W.keepIn K (.ref W.f_law_open) = true := W.U_law_open.kp
theorem Facts.b_law_open (W : Facts P K mg T) : Binds K W.fd_law_open ["_law_script"] [] := W.U_law_open.binds (ps := ["_law_script"]) fun _ _ _ _ _ _ us hl => match us, hl with | [_], _ => rfl
theorem Facts.kp_law_pull (W : Facts P K mg T) : PySem.W.keepIn K (.ref W.f_law_pull) = true := W.U_law_pull.kp
theorem Facts.b_law_pull (W : Facts P K mg T) : Binds K W.fd_law_pull ["_law_box", "_law_many"] [] := W.U_law_pull.binds (ps := ["_law_box", "_law_many"]) fun _ _ _ _ _ _ us hl => match us, hl with | [_, _], _ => rfl
theorem Facts.kp_law_pick (W : Facts P K mg T) : PySem.W.keepIn K (.ref W.f_law_pick) = true := W.U_law_pick.kp
theorem Facts.b_law_pick (W : Facts P K mg T) : Binds K W.fd_law_pick ["_law_box", "_law_row"] [] := W.U_law_pick.binds (ps := ["_law_box", "_law_row"]) fun _ _ _ _ _ _ us hl => match us, hl with | [_, _], _ => rfl
theorem Facts.kp_law_letters (W : Facts P K mg T) : PySem.W.keepIn K (.ref W.f_law_letters) = true := W.U_law_letters.kp
theorem Facts.b_law_letters (W : Facts P K mg T) : Binds K W.fd_law_letters ["_law_box", "_law_many"] [] := W.U_law_letters.binds (ps := ["_law_box", "_law_many"]) fun _ _ _ _ _ _ us hl => match us, hl with | [_, _], _ => rfl
theorem Facts.kp_law_some (W : Facts P K mg T) : PySem.W.keepIn K (.ref W.f_law_some) = true := W.U_law_some.kp
theorem Facts.b_law_some (W : Facts P K mg T) : Binds K W.fd_law_some ["_law_box", "_law_many"] [] := W.U_law_some.binds (ps := ["_law_box", "_law_many"]) fun _ _ _ _ _ _ us hl => match us, hl with | [_, _], _ => rfl
theorem Facts.kp_law_plan (W : Facts P K mg T) : PySem.W.keepIn K (.ref W.f_law_plan) = true := W.U_law_plan.kp
theorem Facts.b_law_plan (W : Facts P K mg T) : Binds K W.fd_law_plan ["_law_box", "_law_most_states", "_law_most_letters"] [] := W.U_law_plan.binds (ps := ["_law_box", "_law_most_states", "_law_most_letters"]) fun _ _ _ _ _ _ us hl => match us, hl with | [_, _, _], _ => rfl
theorem Facts.kp_is_letters (W : Facts P K mg T) : PySem.W.keepIn K (.ref W.f_is_letters) = true := W.U_is_letters.kp
theorem Facts.b_is_letters (W : Facts P K mg T) : Binds K W.fd_is_letters ["value"] [] := W.U_is_letters.binds (ps := ["value"]) fun _ _ _ _ _ _ us hl => match us, hl with | [_], _ => rfl
theorem Facts.kp_is_number (W : Facts P K mg T) : PySem.W.keepIn K (.ref W.f_is_number) = true := W.U_is_number.kp
theorem Facts.b_is_number (W : Facts P K mg T) : Binds K W.fd_is_number ["value", "least", "most"] [] := W.U_is_number.binds (ps := ["value", "least", "most"]) fun _ _ _ _ _ _ us hl => match us, hl with | [_, _, _], _ => rfl
theorem Facts.kp_is_step (W : Facts P K mg T) : PySem.W.keepIn K (.ref W.f_is_step) = true := W.U_is_step.kp
theorem Facts.b_is_step (W : Facts P K mg T) : Binds K W.fd_is_step ["step", "letters", "states"] [] := W.U_is_step.binds (ps := ["step", "letters", "states"]) fun _ _ _ _ _ _ us hl => match us, hl with | [_, _, _], _ => rfl
theorem Facts.kp_relation_of (W : Facts P K mg T) : PySem.W.keepIn K (.ref W.f_relation_of) = true := W.U_relation_of.kp
theorem Facts.b_relation_of (W : Facts P K mg T) : Binds K W.fd_relation_of ["states", "pairs"] [] := W.U_relation_of.binds (ps := ["states", "pairs"]) fun _ _ _ _ _ _ us hl => match us, hl with | [_, _], _ => rfl
theorem Facts.b_Rule___init__ (W : Facts P K mg T) : Binds K W.fd_Rule___init__ ["self", "letters", "states", "steps", "first", "last"] [] := W.U_Rule___init__.binds (ps := ["self", "letters", "states", "steps", "first", "last"]) fun _ _ _ _ _ _ us hl => match us, hl with | [_, _, _, _, _, _], _ => rfl
theorem Facts.kp_law_made (W : Facts P K mg T) : PySem.W.keepIn K (.ref W.f_law_made) = true := W.U_law_made.kp
theorem Facts.b_law_made (W : Facts P K mg T) : Binds K W.fd_law_made ["_law_plan_here"] [] := W.U_law_made.binds (ps := ["_law_plan_here"]) fun _ _ _ _ _ _ us hl => match us, hl with | [_], _ => rfl
theorem Facts.kp_law_text (W : Facts P K mg T) : PySem.W.keepIn K (.ref W.f_law_text) = true := W.U_law_text.kp
theorem Facts.b_law_text (W : Facts P K mg T) : Binds K W.fd_law_text ["_law_box", "_law_letters_here", "_law_most"] [] := W.U_law_text.binds (ps := ["_law_box", "_law_letters_here", "_law_most"]) fun _ _ _ _ _ _ us hl => match us, hl with | [_, _, _], _ => rfl
theorem Facts.kp_law_same_rel (W : Facts P K mg T) : PySem.W.keepIn K (.ref W.f_law_same_rel) = true := W.U_law_same_rel.kp
theorem Facts.b_law_same_rel (W : Facts P K mg T) : Binds K W.fd_law_same_rel ["_law_many"] [] := W.U_law_same_rel.binds (ps := ["_law_many"]) fun _ _ _ _ _ _ us hl => match us, hl with | [_], _ => rfl
theorem Facts.kp_law_image (W : Facts P K mg T) : PySem.W.keepIn K (.ref W.f_law_image) = true := W.U_law_image.kp
theorem Facts.b_law_image (W : Facts P K mg T) : Binds K W.fd_law_image ["_law_row", "_law_rel_here"] [] := W.U_law_image.binds (ps := ["_law_row", "_law_rel_here"]) fun _ _ _ _ _ _ us hl => match us, hl with | [_, _], _ => rfl
theorem Facts.kp_law_chain (W : Facts P K mg T) : PySem.W.keepIn K (.ref W.f_law_chain) = true := W.U_law_chain.kp
theorem Facts.b_law_chain (W : Facts P K mg T) : Binds K W.fd_law_chain ["_law_one", "_law_other"] [] := W.U_law_chain.binds (ps := ["_law_one", "_law_other"]) fun _ _ _ _ _ _ us hl => match us, hl with | [_, _], _ => rfl
theorem Facts.kp_law_letter_rel (W : Facts P K mg T) : PySem.W.keepIn K (.ref W.f_law_letter_rel) = true := W.U_law_letter_rel.kp
theorem Facts.b_law_letter_rel (W : Facts P K mg T) : Binds K W.fd_law_letter_rel ["_law_plan_here", "_law_letter"] [] := W.U_law_letter_rel.binds (ps := ["_law_plan_here", "_law_letter"]) fun _ _ _ _ _ _ us hl => match us, hl with | [_, _], _ => rfl
theorem Facts.kp_law_rel (W : Facts P K mg T) : PySem.W.keepIn K (.ref W.f_law_rel) = true := W.U_law_rel.kp
theorem Facts.b_law_rel (W : Facts P K mg T) : Binds K W.fd_law_rel ["_law_plan_here", "_law_text_z"] [] := W.U_law_rel.binds (ps := ["_law_plan_here", "_law_text_z"]) fun _ _ _ _ _ _ us hl => match us, hl with | [_, _], _ => rfl
theorem Facts.kp_law_like (W : Facts P K mg T) : PySem.W.keepIn K (.ref W.f_law_like) = true := W.U_law_like.kp
theorem Facts.b_law_like (W : Facts P K mg T) : Binds K W.fd_law_like ["_law_found", "_law_due"] [] := W.U_law_like.binds (ps := ["_law_found", "_law_due"]) fun _ _ _ _ _ _ us hl => match us, hl with | [_, _], _ => rfl
theorem Facts.b_Rule_check_text (W : Facts P K mg T) : Binds K W.fd_Rule_check_text ["self", "text"] [] := W.U_Rule_check_text.binds (ps := ["self", "text"]) fun _ _ _ _ _ _ us hl => match us, hl with | [_, _], _ => rfl
theorem Facts.kp_identity (W : Facts P K mg T) : PySem.W.keepIn K (.ref W.f_identity) = true := W.U_identity.kp
theorem Facts.b_identity (W : Facts P K mg T) : Binds K W.fd_identity ["states"] [] := W.U_identity.binds (ps := ["states"]) fun _ _ _ _ _ _ us hl => match us, hl with | [_], _ => rfl
theorem Facts.kp_bits_of (W : Facts P K mg T) : PySem.W.keepIn K (.ref W.f_bits_of) = true := W.U_bits_of.kp
theorem Facts.b_bits_of (W : Facts P K mg T) : Binds K W.fd_bits_of ["row", "states"] [] := W.U_bits_of.binds (ps := ["row", "states"]) fun _ _ _ _ _ _ us hl => match us, hl with | [_, _], _ => rfl
theorem Facts.kp_image (W : Facts P K mg T) : PySem.W.keepIn K (.ref W.f_image) = true := W.U_image.kp
theorem Facts.b_image (W : Facts P K mg T) : Binds K W.fd_image ["row", "relation"] [] := W.U_image.binds (ps := ["row", "relation"]) fun _ _ _ _ _ _ us hl => match us, hl with | [_, _], _ => rfl
theorem Facts.kp_joined (W : Facts P K mg T) : PySem.W.keepIn K (.ref W.f_joined) = true := W.U_joined.kp
theorem Facts.b_joined (W : Facts P K mg T) : Binds K W.fd_joined ["one", "other"] [] := W.U_joined.binds (ps := ["one", "other"]) fun _ _ _ _ _ _ us hl => match us, hl with | [_, _], _ => rfl
theorem Facts.b_Rule_relation (W : Facts P K mg T) : Binds K W.fd_Rule_relation ["self", "text"] [] := W.U_Rule_relation.binds (ps := ["self", "text"]) fun _ _ _ _ _ _ us hl => match us, hl with | [_, _], _ => rfl
theorem Facts.b_Rule_ahead (W : Facts P K mg T) : Binds K W.fd_Rule_ahead ["self", "text", "ends"] [] := W.U_Rule_ahead.binds (ps := ["self", "text", "ends"]) fun _ _ _ _ _ _ us hl => match us, hl with | [_, _, _], _ => rfl
theorem Facts.b_Rule_run (W : Facts P K mg T) : Binds K W.fd_Rule_run ["self", "text", "starts", "ends"] [] := W.U_Rule_run.binds (ps := ["self", "text", "starts", "ends"]) fun _ _ _ _ _ _ us hl => match us, hl with | [_, _, _, _], _ => rfl
theorem Facts.b_Rule_first (W : Facts P K mg T) : Binds K W.fd_Rule_first ["self"] [] := W.U_Rule_first.binds (ps := ["self"]) fun _ _ _ _ _ _ us hl => match us, hl with | [_], _ => rfl
theorem Facts.b_Rule_last (W : Facts P K mg T) : Binds K W.fd_Rule_last ["self"] [] := W.U_Rule_last.binds (ps := ["self"]) fun _ _ _ _ _ _ us hl => match us, hl with | [_], _ => rfl
theorem Facts.b_Rule_least_marking (W : Facts P K mg T) : Binds K W.fd_Rule_least_marking ["self", "text"] [] := W.U_Rule_least_marking.binds (ps := ["self", "text"]) fun _ _ _ _ _ _ us hl => match us, hl with | [_, _], _ => rfl
theorem Facts.b_Rule___call__ (W : Facts P K mg T) : Binds K W.fd_Rule___call__ ["self", "text"] [] := W.U_Rule___call__.binds (ps := ["self", "text"]) fun _ _ _ _ _ _ us hl => match us, hl with | [_, _], _ => rfl
theorem Facts.kp_is_related (W : Facts P K mg T) : PySem.W.keepIn K (.ref W.f_is_related) = true := W.U_is_related.kp
theorem Facts.b_is_related (W : Facts P K mg T) : Binds K W.fd_is_related ["relation", "first", "second"] [] := W.U_is_related.binds (ps := ["relation", "first", "second"]) fun _ _ _ _ _ _ us hl => match us, hl with | [_, _, _], _ => rfl
theorem Facts.b_Rule_how_many (W : Facts P K mg T) : Binds K W.fd_Rule_how_many ["self", "text"] [] := W.U_Rule_how_many.binds (ps := ["self", "text"]) fun _ _ _ _ _ _ us hl => match us, hl with | [_, _], _ => rfl
theorem Facts.b_Rule_states (W : Facts P K mg T) : Binds K W.fd_Rule_states ["self"] [] := W.U_Rule_states.binds (ps := ["self"]) fun _ _ _ _ _ _ us hl => match us, hl with | [_], _ => rfl
theorem Facts.kp_is_run (W : Facts P K mg T) : PySem.W.keepIn K (.ref W.f_is_run) = true := W.U_is_run.kp
theorem Facts.b_is_run (W : Facts P K mg T) : Binds K W.fd_is_run ["rule", "text", "states"] [] := W.U_is_run.binds (ps := ["rule", "text", "states"]) fun _ _ _ _ _ _ us hl => match us, hl with | [_, _, _], _ => rfl
theorem Facts.b_Rule_is_marking (W : Facts P K mg T) : Binds K W.fd_Rule_is_marking ["self", "text", "marking"] [] := W.U_Rule_is_marking.binds (ps := ["self", "text", "marking"]) fun _ _ _ _ _ _ us hl => match us, hl with | [_, _, _], _ => rfl
theorem Facts.b_Rule___contains__ (W : Facts P K mg T) : Binds K W.fd_Rule___contains__ ["self", "text"] [] := W.U_Rule___contains__.binds (ps := ["self", "text"]) fun _ _ _ _ _ _ us hl => match us, hl with | [_, _], _ => rfl
theorem Facts.bd_Rule_markings_1 (W : Facts P K mg T) : ∃ dus, Vals [.int ((100 : Nat) : Int)] dus ∧ Binds K W.fd_Rule_markings ["self", "text", "most"] dus := W.U_Rule_markings.binds0 (ps := ["self", "text", "most"]) 2 (by simp) (by rfl) fun _ _ _ _ _ _ us ks h1 h2 => match us, ks, h1, h2 with | [_, _], [_], _, _ => ⟨_, _, _, _, _, _, rfl, rfl, rfl⟩
theorem Facts.b_law_told (W : Facts P K mg T) : Binds K W.fd_law_told ["_law_ask"] [] := W.U_law_told.binds (ps := ["_law_ask"]) fun _ _ _ _ _ _ us hl => match us, hl with | [_], _ => rfl
theorem Facts.kp_law_field (W : Facts P K mg T) : PySem.W.keepIn K (.ref W.f_law_field) = true := W.U_law_field.kp
theorem Facts.b_law_field (W : Facts P K mg T) : Binds K W.fd_law_field ["_law_e"] [] := W.U_law_field.binds (ps := ["_law_e"]) fun _ _ _ _ _ _ us hl => match us, hl with | [_], _ => rfl
theorem ok_law_field (W : Facts P K mg T) : FnP P w K mg base (L2.CX P w) 1 W.f_law_field W.fd_law_field ["_law_e"] (spP K (csN T [21, 22, 23, 24, 25, 39, 40, 45, 46]) F_law_field) := by
  refine fn_ofP W.U_law_field sc_law_field spP_len (fun cdv A outer s H vs Q E p hr hsp => ?_)
  obtain ⟨C, dx, fs, ds, B, g, hC, hz, hd, rfl, c, k⟩ := hsp
  have hu := roomH_units hr
  have hu65 : (A.deeper (envOfC "_law_field" (defScope s_law_field) s.heap.objs.size W.f_law_field cdv)).units + 65 < cLine := by have := hr.un; omega
  have hp : p ∈ (L2H.cxH (L2.CX P w) P w K mg base N_law_field "_law_field" (defScope s_law_field) W.f_law_field cdv A outer s H E p).pn := List.mem_cons_self
  exact ⟨_, (sd_cons (sd_if (pkt_in hu65 (pk_of (pk_fldP (W.xf_code C hC).1 (W.xf_code C hC).2 hp hz hd (pk_var 0 (pv 0)))) (pk_of (pd_tup (pl_cons pd_str (pl_cons pd_str (pl_cons pd_str (pl_cons pd_str (pl_cons pd_str (pl_cons pd_str pl_nil))))))))) (sd_one (sd_ret (pd_tup (pl_cons (pk_fldP (W.xf_at C hC).1 (W.xf_at C hC).2 hp hz hd (pk_var 0 (pv 0))) pl_nil)))) sd_nil)
    (sd_cons (sd_if (pkt_in hu65 (pk_of (pk_fldP (W.xf_code C hC).1 (W.xf_code C hC).2 hp hz hd (pk_var 0 (pv 0)))) (pk_of (pd_tup (pl_cons pd_str (pl_cons pd_str (pl_cons pd_str (pl_cons pd_str (pl_cons pd_str (pl_cons pd_str pl_nil))))))))) (sd_one (sd_ret (pd_tup (pl_cons (pk_fldP (W.xf_given C hC).1 (W.xf_given C hC).2 hp hz hd (pk_var 0 (pv 0))) pl_nil)))) sd_nil)
    (sd_cons (sd_if (pkt_in hu65 (pk_of (pk_fldP (W.xf_code C hC).1 (W.xf_code C hC).2 hp hz hd (pk_var 0 (pv 0)))) (pk_of (pd_tup (pl_cons pd_str (pl_cons pd_str (pl_cons pd_str (pl_cons pd_str pl_nil))))))) (sd_one (sd_ret (pd_tup (pl_cons (pk_fldP (W.xf_name C hC).1 (W.xf_name C hC).2 hp hz hd (pk_var 0 (pv 0))) pl_nil)))) sd_nil)
    (sd_cons (sd_if (pkt_in hu65 (pk_of (pk_fldP (W.xf_code C hC).1 (W.xf_code C hC).2 hp hz hd (pk_var 0 (pv 0)))) (pk_of (pd_tup (pl_cons pd_str (pl_cons pd_str pl_nil))))) (sd_one (sd_ret (pd_tup (pl_cons (pk_fldP (W.xf_bound C hC).1 (W.xf_bound C hC).2 hp hz hd (pk_var 0 (pv 0))) pl_nil)))) sd_nil)
    (sd_one (sd_ret (pd_if (pkt_eq hu (pk_of (pk_fldP (W.xf_code C hC).1 (W.xf_code C hC).2 hp hz hd (pk_var 0 (pv 0)))) (pk_of pd_str)) (pd_tup (pl_cons (pk_fldP (W.xf_lacking C hC).1 (W.xf_lacking C hC).2 hp hz hd (pk_var 0 (pv 0))) pl_nil)) (pd_tup pl_nil)))))))), body_end (N := N_law_field) (X := L2H.cxH (L2.CX P w) P w K mg base N_law_field "_law_field" (defScope s_law_field) W.f_law_field cdv A outer s H E p) (show spD K (F_law_field p.1 dx) _ H Q E from ⟨B, _, g, c, k⟩)⟩
theorem Facts.kb_Rule_relation_1_text (W : Facts P K mg T) : KBinds K W.fd_Rule_relation ["self", "text"] ["text"] (kwG 1 1 [0]) (kwG 1 1 [0]) := kbinds_of W.U_Rule_relation (ps := ["self", "text"]) (ks := ["text"]) (p := 1) (n := 1) (perm := [0]) (by simp) (fun _ _ _ _ _ _ us ws h1 h2 => match us, ws, h1, h2 with | [u0], [w0], _, _ => rfl)
theorem dv_law_open (W : Facts P K mg T) {cdv : Value} {A : Around} {outer : List Env} {s : Shared} {H : Hp} {E : XK} {f : Addr} (hr : Room 0 (A.deeper (envOfC "_law_open" (defScope s_law_open) s.heap.objs.size f cdv))) :
    PSs (cxOf (L2.CX P w) P w K mg base N_law_open "_law_open" (defScope s_law_open) f cdv A outer s H E) ((defBody s_law_open).drop 1) (tS K (fun cls d _ H => E cls d H) h_law_open) := by
  have hu := hr.units
  have z : ∃ t, PSs (cxOf (L2.CX P w) P w K mg base N_law_open "_law_open" (defScope s_law_open) f cdv A outer s H E) ((defBody s_law_open).drop 1) t ∧ t = tS K (fun cls d _ H => E cls d H) h_law_open := ⟨_, (sd_cons (sd_set (pd_add pd_int (pd_mul pd_int (pd_b1 c1_len (call_len_seq.or call_len_str) boot_len (by rfl) W.m_len (pk_var 1 (pv 1))))) (fun he => ps_set (i := 2) sc_law_open.nd rfl (.inl rfl) he))
    (sd_cons (sd_for (passes_of rfl) (by rfl) (pi_seq (pd_var 1 (pv 1))) (gd_name (pg_name (i := 3) sc_law_open.nd rfl (.inl rfl))) bndN_noex (sd_one (sd_set (pd_mod (pd_t1 c1_int call_int1 PyProof.Rows.boot_int (by rfl) W.m_int (pk_of (pd_add (pd_mul (pd_var 2 (pv 2)) pd_int) (pd_var 3 (pv 3))))) pd_int) (fun he => ps_set (i := 2) sc_law_open.nd rfl (.inl rfl) he))))
    (sd_one (sd_ret (pd_new (pn_lst (pl_cons (pd_var 1 (pv 1)) (pl_cons pd_int (pl_cons pd_int (pl_cons (pd_var 2 (pv 2)) pl_nil)))))))))), rfl⟩
  obtain ⟨t, z1, rfl⟩ := z
  exact z1
theorem ok_law_pull (W : Facts P K mg T) : FnOk P w K mg base (L2.CX P w) 1 W.f_law_pull W.fd_law_pull ["_law_box", "_law_many"] (spD K F_law_pull) := by
  refine W.U_law_pull.okX (k := 0) sc_law_pull (spD_len fun ss g e => runB_len e) (fun cdv A outer s H vs Q E hr h => ?_)
  have hu := hr.units
  exact ⟨_, (sd_cons (sd_if (pt_lt (pk_ix (pk_var 0 (pv 0)) (pk_of pd_int) (fun _ _ => rfl)) pd_int) (sd_cons (sd_item (pf_var 0 (pv 0)) pd_int (pd_add (pk_ix (pk_var 0 (pv 0)) (pk_of pd_int) (fun _ _ => rfl)) pd_int))
    (sd_cons (sd_set (pd_add (pk_ix (pk_var 0 (pv 0)) (pk_of pd_int) (fun _ _ => rfl)) (pd_mul (pk_ix (pk_var 0 (pv 0)) (pk_of pd_int) (fun _ _ => rfl)) pd_int)) (fun he => ps_set (i := 2) sc_law_pull.nd rfl (.inl rfl) he))
    (sd_cons (sd_if (pt_le (pk_ix (pk_var 0 (pv 0)) (pk_of pd_int) (fun _ _ => rfl)) (pd_b1 c1_len (call_len_seq.or call_len_str) boot_len (by rfl) W.m_len (pk_of (pk_ix (pk_var 0 (pv 0)) (pk_of pd_int) (fun _ _ => rfl))))) (sd_one (sd_set (pk_ix (pk_of (pk_ix (pk_var 0 (pv 0)) (pk_of pd_int) (fun _ _ => rfl))) (pk_of (pd_sub (pk_ix (pk_var 0 (pv 0)) (pk_of pd_int) (fun _ _ => rfl)) pd_int)) (fun _ _ => rfl)) (fun he => ps_set (i := 2) sc_law_pull.nd rfl (.inl rfl) he))) sd_nil)
    (sd_cons (sd_if (PW.pt (wd_or (pt_gt (pk_ix (pk_var 0 (pv 0)) (pk_of pd_int) (fun _ _ => rfl)) (pd_b1 c1_len (call_len_seq.or call_len_str) boot_len (by rfl) W.m_len (pk_of (pk_ix (pk_var 0 (pv 0)) (pk_of pd_int) (fun _ _ => rfl))))) (wd_or1 (pt_lt (pd_var 2 (pv 2)) (pd_pow pd_int pd_int))))) (sd_cons (sd_set (pd_mod (pd_t1 c1_int call_int1 PyProof.Rows.boot_int (by rfl) W.m_int (pk_of (pd_add (pd_add (pd_mul (pd_var 2 (pv 2)) pd_int) (pd_mul (pk_ix (pk_var 0 (pv 0)) (pk_of pd_int) (fun _ _ => rfl)) pd_int)) (pk_ix (pk_var 0 (pv 0)) (pk_of pd_int) (fun _ _ => rfl))))) pd_int) (fun he => ps_set (i := 3) sc_law_pull.nd rfl (.inl rfl) he))
    (sd_cons (sd_set (pd_mod (pd_t1 c1_int call_int1 PyProof.Rows.boot_int (by rfl) W.m_int (pk_of (pd_add (pd_mul (pd_var 3 (pv 3)) (pd_var 3 (pv 3))) (pd_mul (pk_ix (pk_var 0 (pv 0)) (pk_of pd_int) (fun _ _ => rfl)) pd_int)))) pd_int) (fun he => ps_set (i := 4) sc_law_pull.nd rfl (.inl rfl) he))
    (sd_one (sd_ret (pd_mod (pd_fdiv (pd_mod (pd_t1 c1_int call_int1 PyProof.Rows.boot_int (by rfl) W.m_int (pk_of (pd_add (pd_mul (pd_var 4 (pv 4)) pd_int) (pd_var 3 (pv 3))))) pd_int) pd_int) (pd_var 1 (pv 1))))))) sd_nil)
    (sd_one (sd_item (pf_var 0 (pv 0)) pd_int (pd_var 2 (pv 2)))))))) sd_nil)
    (sd_cons (sd_set (pd_mod (pd_t1 c1_int call_int1 PyProof.Rows.boot_int (by rfl) W.m_int (pk_of (pk_ix (pk_var 0 (pv 0)) (pk_of pd_int) (fun _ _ => rfl)))) (pd_var 1 (pv 1))) (fun he => ps_set (i := 5) sc_law_pull.nd rfl (.inl rfl) he))
    (sd_cons (sd_item (pf_var 0 (pv 0)) pd_int (pd_fdiv (pd_t1 c1_int call_int1 PyProof.Rows.boot_int (by rfl) W.m_int (pk_of (pk_ix (pk_var 0 (pv 0)) (pk_of pd_int) (fun _ _ => rfl)))) (pd_var 1 (pv 1))))
    (sd_one (sd_ret (pd_var 5 (pv 5))))))), body_end (N := N_law_pull) (X := cxOf (L2.CX P w) P w K mg base N_law_pull "_law_pull" (defScope s_law_pull) W.f_law_pull cdv A outer s H E) h⟩
theorem ok_law_pick (W : Facts P K mg T) : FnOk P w K mg base (L2.CX P w) 2 W.f_law_pick W.fd_law_pick ["_law_box", "_law_row"] (spD K F_law_pick) := by
  refine W.U_law_pick.okX (k := 1) sc_law_pick (spD_len fun ss g e => runB_len e) (fun cdv A outer s H vs Q E hr h => ?_)
  have hu := hr.units
  exact ⟨_, (sd_one (sd_ret (pk_ix (pk_var 1 (pv 1)) (pk_of (pd_call (L2.FnOk.mono (ok_law_pull W) (by decide)) hr (by rfl) W.g_law_pull W.kp_law_pull W.b_law_pull (takes_of rfl rfl rfl rfl) (pl_cons (pd_var 0 (pv 0)) (pl_cons (pd_b1 c1_len (call_len_seq.or call_len_str) boot_len (by rfl) W.m_len (pk_var 1 (pv 1))) pl_nil)))) (fun _ _ => rfl)))), body_end (N := N_law_pick) (X := cxOf (L2.CX P w) P w K mg base N_law_pick "_law_pick" (defScope s_law_pick) W.f_law_pick cdv A outer s H E) h⟩
theorem ok_law_letters (W : Facts P K mg T) : FnOk P w K mg base (L2.CX P w) 3 W.f_law_letters W.fd_law_letters ["_law_box", "_law_many"] (spD K F_law_letters) := by
  refine W.U_law_letters.okX (k := 2) sc_law_letters (spD_len fun ss g e => runB_len e) (fun cdv A outer s H vs Q E hr h => ?_)
  have hu := hr.units
  exact ⟨_, (sd_cons (sd_set (pd_new (pn_lst (pl_cons (pd_new (pn_lst (pl_cons pd_str (pl_cons pd_str (pl_cons pd_str pl_nil))))) (pl_cons (pd_new (pn_lst (pl_cons pd_str (pl_cons pd_str (pl_cons pd_str pl_nil))))) (pl_cons (pd_new (pn_lst (pl_cons pd_str (pl_cons pd_str (pl_cons pd_str pl_nil))))) (pl_cons (pd_new (pn_lst (pl_cons pd_str (pl_cons pd_str (pl_cons pd_str pl_nil))))) pl_nil)))))) (fun he => ps_set (i := 2) sc_law_letters.nd rfl (.inl rfl) he))
    (sd_one (sd_ret (pd_call (L2.FnOk.mono (ok_law_pick W) (by decide)) hr (by rfl) W.g_law_pick W.kp_law_pick W.b_law_pick (takes_of rfl rfl rfl rfl) (pl_cons (pd_var 0 (pv 0)) (pl_cons (pk_ix (pk_var 2 (pv 2)) (pk_of (pd_sub (pd_var 1 (pv 1)) pd_int)) (fun _ _ => rfl)) pl_nil)))))), body_end (N := N_law_letters) (X := cxOf (L2.CX P w) P w K mg base N_law_letters "_law_letters" (defScope s_law_letters) W.f_law_letters cdv A outer s H E) h⟩
theorem ok_law_some (W : Facts P K mg T) : FnOk P w K mg base (L2.CX P w) 2 W.f_law_some W.fd_law_some ["_law_box", "_law_many"] (spD K F_law_some) := by
  refine W.U_law_some.okX (k := 1) sc_law_some (spD_len fun ss g e => runB_len e) (fun cdv A outer s H vs Q E hr h => ?_)
  have hu := hr.units
  exact ⟨_, (sd_one (sd_ret (pd_new (pn_lc (by rfl) sc_law_some.nd (pi_rng1 (by rfl) W.m_range (pd_var 1 (pv 1))) (blkOk_by (own := [("_law_one", 2)]) (N := N_law_some) (sc := defScope s_law_some) (by decide +kernel)) (by decide) bndN_noex (fun _ _ _ _ _ => (gd_name (pg_name (i := 2) sc_law_some.nd rfl (.inl rfl)))) (fun _ _ _ _ _ => (pts_oneD (pt_gt (pd_call (L2.FnOk.mono (ok_law_pull W) (by decide)) hr (by rfl) W.g_law_pull W.kp_law_pull W.b_law_pull takes0 (pl_cons (pd_var 0 (pv 0)) (pl_cons pd_int pl_nil))) pd_int))) (fun _ _ _ _ _ => (pd_var 2 (pv 2))))))), body_end (N := N_law_some) (X := cxOf (L2.CX P w) P w K mg base N_law_some "_law_some" (defScope s_law_some) W.f_law_some cdv A outer s H E) h⟩
theorem ok_law_plan (W : Facts P K mg T) : FnOk P w K mg base (L2.CX P w) 4 W.f_law_plan W.fd_law_plan ["_law_box", "_law_most_states", "_law_most_letters"] (spD K F_law_plan) := by
  refine W.U_law_plan.okX (k := 3) sc_law_plan (spD_len fun ss g e => runB_len e) (fun cdv A outer s H vs Q E hr h => ?_)
  have hu := hr.units
  have hu65 := units65 hr
  exact ⟨_, (sd_cons (sd_set (pd_call (L2.FnOk.mono (ok_law_letters W) (by decide)) hr (by rfl) W.g_law_letters W.kp_law_letters W.b_law_letters (takes_of rfl rfl rfl rfl) (pl_cons (pd_var 0 (pv 0)) (pl_cons (pd_add pd_int (pd_call (L2.FnOk.mono (ok_law_pull W) (by decide)) hr (by rfl) W.g_law_pull W.kp_law_pull W.b_law_pull (takes_of rfl rfl rfl rfl) (pl_cons (pd_var 0 (pv 0)) (pl_cons (pd_var 2 (pv 2)) pl_nil)))) pl_nil))) (fun he => ps_set (i := 3) sc_law_plan.nd rfl (.inl rfl) he))
    (sd_cons (sd_par3 (fun ha => ps_par3 (by rfl) sc_law_plan.nd rfl rfl rfl (by decide) (by decide) (by decide) rfl rfl rfl ha (by rfl)) (pl_cons (pd_add pd_int (pd_call (L2.FnOk.mono (ok_law_pull W) (by decide)) hr (by rfl) W.g_law_pull W.kp_law_pull W.b_law_pull (takes_of rfl rfl rfl rfl) (pl_cons (pd_var 0 (pv 0)) (pl_cons (pd_var 1 (pv 1)) pl_nil)))) (pl_cons (pd_call (L2.FnOk.mono (ok_law_pull W) (by decide)) hr (by rfl) W.g_law_pull W.kp_law_pull W.b_law_pull (takes_of rfl rfl rfl rfl) (pl_cons (pd_var 0 (pv 0)) (pl_cons pd_int pl_nil))) (pl_cons (pd_new (pn_lst pl_nil)) pl_nil))))
    (sd_cons (sd_for (passes_of rfl) (by rfl) (pi_seq (pd_var 3 (pv 3))) (gd_name (pg_name (i := 7) sc_law_plan.nd rfl (.inr rfl))) bndN_noex (sd_one (sd_for (passes_of rfl) (by rfl) (pi_rng1 (by rfl) W.m_range (pd_var 4 (pv 4))) (gd_name (pg_name (i := 8) sc_law_plan.nd rfl (.inr rfl))) bndN_noex (sd_cons (sd_setLc (i := 9) (by rfl) sc_law_plan.nd rfl rfl (sw_true rfl rfl rfl (by decide +kernel)) (pi_rng1 (by rfl) W.m_range (pd_var 4 (pv 4))) (blkOk_by (own := [("_law_other", 10)]) (N := N_law_plan) (sc := defScope s_law_plan) (by decide +kernel)) (by decide) bndN_noex (fun _ _ _ _ _ => (gd_name (pg_name (i := 10) sc_law_plan.nd rfl (.inl rfl)))) (fun _ _ _ _ _ => (pts_oneD (pkt_eq hu (pk_of (pd_call (L2.FnOk.mono (ok_law_pull W) (by decide)) hr (by rfl) W.g_law_pull W.kp_law_pull W.b_law_pull takes0 (pl_cons (pd_var 0 (pv 0)) (pl_cons pd_int pl_nil)))) (pk_of pd_int)))) (fun _ _ _ _ _ => (pd_var 10 (pv 10))))
    (sd_cons (sd_if (PW.pt (wd_and (pkt_eq hu (pk_var 9 (pv 9)) (pk_of (pd_new (pn_lst pl_nil)))) (wd_and1 (pt_gt (pd_var 5 (pv 5)) pd_int)))) (sd_one (sd_set (pd_new (pn_lst (pl_cons (pd_call (L2.FnOk.mono (ok_law_pull W) (by decide)) hr (by rfl) W.g_law_pull W.kp_law_pull W.b_law_pull (takes_of rfl rfl rfl rfl) (pl_cons (pd_var 0 (pv 0)) (pl_cons (pd_var 4 (pv 4)) pl_nil))) pl_nil))) (fun he => ps_set (i := 9) sc_law_plan.nd rfl (.inl rfl) he))) sd_nil)
    (sd_one (sd_set (pd_add (pd_var 6 (pv 6)) (pd_new (pn_lc (by rfl) sc_law_plan.nd (pi_seq (pd_var 9 (pv 9))) (blkOk_by (own := [("_law_other", 10)]) (N := N_law_plan) (sc := defScope s_law_plan) (by decide +kernel)) (by decide) bndN_noex (fun _ _ _ _ _ => (gd_name (pg_name (i := 10) sc_law_plan.nd rfl (.inl rfl)))) (fun _ _ _ _ _ => pts_nilD) (fun _ _ _ _ _ => (pd_tup (pl_cons (pd_var 8 (pv 8)) (pl_cons (pd_var 7 (pv 7)) (pl_cons (pd_var 10 (pv 10)) pl_nil)))))))) (fun he => ps_set (i := 6) sc_law_plan.nd rfl (.inl rfl) he))))))))
    (sd_cons (sd_if (pt_gt (pd_var 5 (pv 5)) pd_int) (sd_one (sd_ret (pd_tup (pl_cons (pd_var 3 (pv 3)) (pl_cons (pd_var 4 (pv 4)) (pl_cons (pd_new (pn_b1 c1_sortD (cr_sortV hu65) (by decide +kernel) (by rfl) W.m_sorted (pk_var 6 (pv 6)))) (pl_cons (pd_call (L2.FnOk.mono (ok_law_some W) (by decide)) hr (by rfl) W.g_law_some W.kp_law_some W.b_law_some (takes_of rfl rfl rfl rfl) (pl_cons (pd_var 0 (pv 0)) (pl_cons (pd_var 4 (pv 4)) pl_nil))) (pl_cons (pd_new (pn_listRng (by rfl) (by rfl) W.m_list (by rfl) W.m_range (pd_var 4 (pv 4)))) pl_nil)))))))) sd_nil)
    (sd_one (sd_ret (pd_tup (pl_cons (pd_var 3 (pv 3)) (pl_cons (pd_var 4 (pv 4)) (pl_cons (pd_new (pn_b1 c1_sortD (cr_sortV hu65) (by decide +kernel) (by rfl) W.m_sorted (pk_var 6 (pv 6)))) (pl_cons (pd_call (L2.FnOk.mono (ok_law_some W) (by decide)) hr (by rfl) W.g_law_some W.kp_law_some W.b_law_some (takes_of rfl rfl rfl rfl) (pl_cons (pd_var 0 (pv 0)) (pl_cons (pd_var 4 (pv 4)) pl_nil))) (pl_cons (pd_call (L2.FnOk.mono (ok_law_some W) (by decide)) hr (by rfl) W.g_law_some W.kp_law_some W.b_law_some (takes_of rfl rfl rfl rfl) (pl_cons (pd_var 0 (pv 0)) (pl_cons (pd_var 4 (pv 4)) pl_nil))) pl_nil)))))))))))), body_end (N := N_law_plan) (X := cxOf (L2.CX P w) P w K mg base N_law_plan "_law_plan" (defScope s_law_plan) W.f_law_plan cdv A outer s H E) h⟩
theorem ok_is_letters (W : Facts P K mg T) : FnOk P w K mg base (L2.CX P w) 1 W.f_is_letters W.fd_is_letters ["value"] (spD K F_is_letters) := by
  refine W.U_is_letters.okX (k := 0) sc_is_letters (spD_len fun ss g e => runB_len e) (fun cdv A outer s H vs Q E hr h => ?_)
  have hu := hr.units
  have hu65 := units65 hr
  exact ⟨_, (sd_cons (sd_if (PW.pt (wd_or (pt_notD (pt_lele pd_int (pd_b1 c1_len (call_len_seq.or call_len_str) boot_len (by rfl) W.m_len (pk_var 0 (pv 0))) (pd_conI (by rfl) W.v_MOST_LETTERS))) (wd_or1 (pt_notD (pt_tst (pd_b1 c1_all (cr_all rfl) (by decide +kernel) (by rfl) W.m_all (pk_of (pd_new (pn_lc (by rfl) sc_is_letters.nd (pi_seq (pd_var 0 (pv 0))) (blkOk_by (own := [("sign", 1)]) (N := N_is_letters) (sc := defScope s_is_letters) (by decide +kernel)) (by decide) bndN_noex (fun _ _ _ _ _ => (gd_name (pg_name (i := 1) sc_is_letters.nd rfl (.inl rfl)))) (fun _ _ _ _ _ => pts_nilD) (fun _ _ _ _ _ => (pk_in hu65 (pk_var 1 (pv 1)) (pk_of (pd_conS (by rfl) W.v_SMALL))))))))))))) (sd_one (sd_ret pd_bl)) sd_nil)
    (sd_one (sd_ret (pd_b1 c1_all (cr_all rfl) (by decide +kernel) (by rfl) W.m_all (pk_of (pd_new (pn_lc (by rfl) sc_is_letters.nd (pi_zipSD (by rfl) W.m_zip (pd_var 0 (pv 0)) (pk_slice (pk_var 0 (pv 0)) (po_someD pd_int) po_noneD)) (blkOk_by (own := [("one", 2), ("other", 3)]) (N := N_is_letters) (sc := defScope s_is_letters) (by decide +kernel)) (by decide) bndT_noex (fun _ _ _ _ _ => (gd_tup (by rfl) (gds_cons (pg_name (i := 2) sc_is_letters.nd rfl (.inl rfl)) (gds_cons (pg_name (i := 3) sc_is_letters.nd rfl (.inl rfl)) gds_nil)))) (fun _ _ _ _ _ => pts_nilD) (fun _ _ _ _ _ => (pd_lt (pd_var 2 (pv 2)) (pd_var 3 (pv 3))))))))))), body_end (N := N_is_letters) (X := cxOf (L2.CX P w) P w K mg base N_is_letters "is_letters" (defScope s_is_letters) W.f_is_letters cdv A outer s H E) h⟩
theorem ok_is_number (W : Facts P K mg T) : FnOk P w K mg base (L2.CX P w) 1 W.f_is_number W.fd_is_number ["value", "least", "most"] (spD K F_is_number) := by
  refine W.U_is_number.okX (k := 0) sc_is_number (spD_len fun ss g e => runB_len e) (fun cdv A outer s H vs Q E hr h => ?_)
  have hu := hr.units
  exact ⟨_, (sd_one (sd_ret (pd_andV (pd_isi (by rfl) W.m_isinstance (pk_var 0 (pv 0)) (by rfl) W.m_int PyProof.Rows.boot_int) (pd_andV (pd_notV (pd_isi (by rfl) W.m_isinstance (pk_var 0 (pv 0)) (by rfl) W.m_bool PyProof.Rows.boot_bool)) (pd_one (pd_lele (pd_var 1 (pv 1)) (pd_var 0 (pv 0)) (pd_var 2 (pv 2)))))))), body_end (N := N_is_number) (X := cxOf (L2.CX P w) P w K mg base N_is_number "is_number" (defScope s_is_number) W.f_is_number cdv A outer s H E) h⟩
theorem ok_is_step (W : Facts P K mg T) : FnOk P w K mg base (L2.CX P w) 2 W.f_is_step W.fd_is_step ["step", "letters", "states"] (spD K F_is_step) := by
  refine W.U_is_step.okX (k := 1) sc_is_step (spD_len fun ss g e => runB_len e) (fun cdv A outer s H vs Q E hr h => ?_)
  have hu := hr.units
  have hu65 := units65 hr
  exact ⟨_, (sd_cons (sd_if (PW.pt (wd_or (pt_notD (pt_tst (pd_isi (by rfl) W.m_isinstance (pk_var 0 (pv 0)) (by rfl) W.m_tuple PyProof.Rows.boot_tuple))) (wd_or (pkt_ne hu (pk_of (pd_b1 c1_len (call_len_seq.or call_len_str) boot_len (by rfl) W.m_len (pk_var 0 (pv 0)))) (pk_of pd_int)) (wd_or1 (pt_notD (pt_tst (pd_isi (by rfl) W.m_isinstance (pk_of (pk_ix (pk_var 0 (pv 0)) (pk_of pd_int) (fun _ _ => rfl))) (by rfl) W.m_str PyProof.Rows.boot_str))))))) (sd_one (sd_ret pd_bl)) sd_nil)
    (sd_cons (sd_asg (gd_tup (by rfl) (gds_cons (pg_name (i := 3) sc_is_step.nd rfl (.inl rfl)) (gds_cons (pg_name (i := 4) sc_is_step.nd rfl (.inl rfl)) (gds_cons (pg_name (i := 5) sc_is_step.nd rfl (.inl rfl)) gds_nil)))) (pd_var 0 (pv 0)) bndT_noex)
    (sd_one (sd_ret (pd_andV (pd_call (L2.FnOk.mono (ok_is_number W) (by decide)) hr (by rfl) W.g_is_number W.kp_is_number W.b_is_number (takes_of rfl rfl rfl rfl) (pl_cons (pd_var 3 (pv 3)) (pl_cons pd_int (pl_cons (pd_sub (pd_var 2 (pv 2)) pd_int) pl_nil)))) (pd_andV (pk_in hu65 (pk_var 4 (pv 4)) (pk_of (pd_new (pn_t1 c1_listT (call_list_of.or (call_list_txt (by rfl))) PyProof.Rows.boot_list (by rfl) W.m_list (pk_var 1 (pv 1)))))) (pd_one (pd_call (L2.FnOk.mono (ok_is_number W) (by decide)) hr (by rfl) W.g_is_number W.kp_is_number W.b_is_number (takes_of rfl rfl rfl rfl) (pl_cons (pd_var 5 (pv 5)) (pl_cons pd_int (pl_cons (pd_sub (pd_var 2 (pv 2)) pd_int) pl_nil))))))))))), body_end (N := N_is_step) (X := cxOf (L2.CX P w) P w K mg base N_is_step "is_step" (defScope s_is_step) W.f_is_step cdv A outer s H E) h⟩
theorem ok_relation_of (W : Facts P K mg T) : FnOk P w K mg base (L2.CX P w) 1 W.f_relation_of W.fd_relation_of ["states", "pairs"] (spD K F_relation_of) := by
  refine W.U_relation_of.okX (k := 0) sc_relation_of (spD_len fun ss g e => runB_len e) (fun cdv A outer s H vs Q E hr h => ?_)
  have hu := hr.units
  exact ⟨_, (sd_cons (sn_set (pn_lst pl_nil) (fun he => ps_set (i := 2) sc_relation_of.nd rfl (.inl rfl) he))
    (sd_cons (sd_for (passes_of rfl) (by rfl) (pi_rng1 (by rfl) W.m_range (pd_var 0 (pv 0))) (gd_name (pg_name (i := 3) sc_relation_of.nd rfl (.inr rfl))) bndN_noex (sd_cons (sd_set (pd_new (pn_sortedSc (by rfl) W.m_sorted (by rfl) sc_relation_of.nd (pi_seq (pd_var 1 (pv 1))) (blkOk_by (own := [("first", 5), ("second", 6)]) (N := N_relation_of) (sc := defScope s_relation_of) (by decide +kernel)) (by decide) bndT_noex (fun _ _ _ _ _ => (gd_tup (by rfl) (gds_cons (pg_name (i := 5) sc_relation_of.nd rfl (.inl rfl)) (gds_cons (pg_name (i := 6) sc_relation_of.nd rfl (.inl rfl)) gds_nil)))) (fun _ _ _ _ _ => (pts_oneD (pkt_eq hu (pk_var 5 (pv 5)) (pk_var 3 (pv 3))))) (fun _ _ _ _ _ => (pd_var 6 (pv 6))))) (fun he => ps_set (i := 4) sc_relation_of.nd rfl (.inl rfl) he))
    (sd_one (sd_expr (pm_append (pf_var 2 (pv 2)) (pd_b1 c1_sum (cr_sum rfl) (by decide +kernel) (by rfl) W.m_sum (pk_of (pd_new (pn_lc (by rfl) sc_relation_of.nd (pi_seq (pd_var 4 (pv 4))) (blkOk_by (own := [("second", 6)]) (N := N_relation_of) (sc := defScope s_relation_of) (by decide +kernel)) (by decide) bndN_noex (fun _ _ _ _ _ => (gd_name (pg_name (i := 6) sc_relation_of.nd rfl (.inl rfl)))) (fun _ _ _ _ _ => pts_nilD) (fun _ _ _ _ _ => (pd_shl pd_int (pd_var 6 (pv 6)))))))))))))
    (sd_one (sd_ret (pd_t1 c1_tuple call_tuple_of PyProof.Rows.boot_tuple (by rfl) W.m_tuple (pk_var 2 (pv 2))))))), body_end (N := N_relation_of) (X := cxOf (L2.CX P w) P w K mg base N_relation_of "relation_of" (defScope s_relation_of) W.f_relation_of cdv A outer s H E) h⟩
theorem ok_Rule___init__ (W : Facts P K mg T) : FnOk P w K mg base (L2.CX P w) 3 W.f_Rule___init__ W.fd_Rule___init__ ["self", "letters", "states", "steps", "first", "last"] (spD K (F_Rule___init__ T)) := by
  refine W.U_Rule___init__.okX (k := 2) sc_Rule___init__ (spD_len fun ss g e => runB_len e) (fun cdv A outer s H vs Q E hr h => ?_)
  have hu := hr.units
  exact ⟨_, (sd_cons (sd_if (pt_notD (pt_tst (pd_call (L2.FnOk.mono (ok_is_letters W) (by decide)) hr (by rfl) W.g_is_letters W.kp_is_letters W.b_is_letters (takes_of rfl rfl rfl rfl) (pl_cons (pd_var 1 (pv 1)) pl_nil)))) (sd_one (sd_raise (by rfl) (takes_of rfl rfl rfl rfl) W.ec_InvalidLetters.cls W.ei_InvalidLetters W.et_InvalidLetters ((ok_err_InvalidLetters W).mono (by decide)) hr (eb_InvalidLetters W) (by rfl) W.g_InvalidLetters (pl_cons (pd_var 1 (pv 1)) pl_nil))) sd_nil)
    (sd_cons (sd_if (pt_notD (pt_tst (pd_call (L2.FnOk.mono (ok_is_number W) (by decide)) hr (by rfl) W.g_is_number W.kp_is_number W.b_is_number (takes_of rfl rfl rfl rfl) (pl_cons (pd_var 2 (pv 2)) (pl_cons pd_int (pl_cons (pd_cval (by rfl) W.g_Rule W.cr_Rule W.cv_Rule_MOST) pl_nil)))))) (sd_one (sd_raise (by rfl) (takes_of rfl rfl rfl rfl) W.ec_InvalidCount.cls W.ei_InvalidCount W.et_InvalidCount ((ok_err_InvalidCount W).mono (by decide)) hr (eb_InvalidCount W) (by rfl) W.g_InvalidCount (pl_cons (pd_var 2 (pv 2)) pl_nil))) sd_nil)
    (sd_cons (sd_for (passes_of rfl) (by rfl) (pi_enumD (by rfl) W.m_enumerate (pd_var 3 (pv 3))) (gd_tup (by rfl) (gds_cons (pg_name (i := 6) sc_Rule___init__.nd rfl (.inl rfl)) (gds_cons (pg_name (i := 7) sc_Rule___init__.nd rfl (.inl rfl)) gds_nil))) bndT_noex (sd_one (sd_if (pt_notD (pt_tst (pd_call (L2.FnOk.mono (ok_is_step W) (by decide)) hr (by rfl) W.g_is_step W.kp_is_step W.b_is_step (takes_of rfl rfl rfl rfl) (pl_cons (pd_var 7 (pv 7)) (pl_cons (pd_var 1 (pv 1)) (pl_cons (pd_var 2 (pv 2)) pl_nil)))))) (sd_one (sd_raise (by rfl) (takes_of rfl rfl rfl rfl) W.ec_InvalidStep.cls W.ei_InvalidStep W.et_InvalidStep ((ok_err_InvalidStep W).mono (by decide)) hr (eb_InvalidStep W) (by rfl) W.g_InvalidStep (pl_cons (pd_var 6 (pv 6)) pl_nil))) sd_nil)))
    (sd_cons (sd_for (passes_of rfl) (by rfl) (pi_seq (pd_add (pd_new (pn_t1 c1_listT (call_list_of.or (call_list_txt (by rfl))) PyProof.Rows.boot_list (by rfl) W.m_list (pk_var 4 (pv 4)))) (pd_new (pn_t1 c1_listT (call_list_of.or (call_list_txt (by rfl))) PyProof.Rows.boot_list (by rfl) W.m_list (pk_var 5 (pv 5)))))) (gd_name (pg_name (i := 8) sc_Rule___init__.nd rfl (.inl rfl))) bndN_noex (sd_one (sd_if (pt_notD (pt_tst (pd_call (L2.FnOk.mono (ok_is_number W) (by decide)) hr (by rfl) W.g_is_number W.kp_is_number W.b_is_number (takes_of rfl rfl rfl rfl) (pl_cons (pd_var 8 (pv 8)) (pl_cons pd_int (pl_cons (pd_sub (pd_var 2 (pv 2)) pd_int) pl_nil)))))) (sd_one (sd_raise (by rfl) (takes_of rfl rfl rfl rfl) W.ec_InvalidState.cls W.ei_InvalidState W.et_InvalidState ((ok_err_InvalidState W).mono (by decide)) hr (eb_InvalidState W) (by rfl) W.g_InvalidState (pl_cons (pd_var 8 (pv 8)) pl_nil))) sd_nil)))
    (sd_cons (sd_fst W.cls_Rule W.na_Rule_own_letters (pf_var 0 (pv 0)) (pd_var 1 (pv 1)))
    (sd_cons (sd_fst W.cls_Rule W.na_Rule_own_states (pf_var 0 (pv 0)) (pd_var 2 (pv 2)))
    (sd_cons (sd_fst W.cls_Rule W.na_Rule_rows (pf_var 0 (pv 0)) (pd_new (pn_listRng (by rfl) (by rfl) W.m_list (by rfl) W.m_range (pd_var 2 (pv 2)))))
    (sd_cons (sd_fst W.cls_Rule W.na_Rule_by_letter (pf_var 0 (pv 0)) (pd_new (pn_dc (by rfl) sc_Rule___init__.nd (pi_seq (pd_var 1 (pv 1))) (blkOk_by (own := [("letter", 9)]) (N := N_Rule___init__) (sc := defScope s_Rule___init__) (by decide +kernel)) (by decide) bndN_noex (fun _ _ _ _ _ => (gd_name (pg_name (i := 9) sc_Rule___init__.nd rfl (.inr rfl)))) (fun _ _ _ _ _ => pts_nilD) (fun _ _ _ _ _ => (pd_var 9 (pv 9))) (fun _ _ _ _ _ => (pd_call (L2.FnOk.mono (ok_relation_of W) (by decide)) hr (by rfl) W.g_relation_of W.kp_relation_of W.b_relation_of takes0 (pl_cons (pd_var 2 (pv 2)) (pl_cons (pd_new (pn_lc (by rfl) sc_Rule___init__.nd (pi_seq (pd_var 3 (pv 3))) (blkOk_by (own := [("one", 10), ("sign", 11), ("other", 12)]) (N := N_Rule___init__) (sc := _) (by rfl)) (by decide) bndT_noex (fun _ _ _ _ _ => (gd_tup (by rfl) (gds_cons (pg_name (i := 10) sc_Rule___init__.nd rfl (.inl rfl)) (gds_cons (pg_name (i := 11) sc_Rule___init__.nd rfl (.inl rfl)) (gds_cons (pg_name (i := 12) sc_Rule___init__.nd rfl (.inl rfl)) gds_nil))))) (fun _ _ _ _ _ => (pts_oneD (pkt_eq hu (pk_var 11 (pv 11)) (pk_var 9 (pv 9))))) (fun _ _ _ _ _ => (pd_tup (pl_cons (pd_var 10 (pv 10)) (pl_cons (pd_var 12 (pv 12)) pl_nil)))))) pl_nil)))))))
    (sd_cons (sd_fst W.cls_Rule W.na_Rule_first_bits (pf_var 0 (pv 0)) (pk_ix (pk_of (pd_call (L2.FnOk.mono (ok_relation_of W) (by decide)) hr (by rfl) W.g_relation_of W.kp_relation_of W.b_relation_of (takes_of rfl rfl rfl rfl) (pl_cons (pd_var 2 (pv 2)) (pl_cons (pd_new (pn_lc (by rfl) sc_Rule___init__.nd (pi_seq (pd_var 4 (pv 4))) (blkOk_by (own := [("state", 8)]) (N := N_Rule___init__) (sc := defScope s_Rule___init__) (by decide +kernel)) (by decide) bndN_noex (fun _ _ _ _ _ => (gd_name (pg_name (i := 8) sc_Rule___init__.nd rfl (.inl rfl)))) (fun _ _ _ _ _ => pts_nilD) (fun _ _ _ _ _ => (pd_tup (pl_cons pd_int (pl_cons (pd_var 8 (pv 8)) pl_nil)))))) pl_nil)))) (pk_of pd_int) (fun _ _ => rfl)))
    (sd_one (sd_fst W.cls_Rule W.na_Rule_last_bits (pf_var 0 (pv 0)) (pk_ix (pk_of (pd_call (L2.FnOk.mono (ok_relation_of W) (by decide)) hr (by rfl) W.g_relation_of W.kp_relation_of W.b_relation_of (takes_of rfl rfl rfl rfl) (pl_cons (pd_var 2 (pv 2)) (pl_cons (pd_new (pn_lc (by rfl) sc_Rule___init__.nd (pi_seq (pd_var 5 (pv 5))) (blkOk_by (own := [("state", 8)]) (N := N_Rule___init__) (sc := defScope s_Rule___init__) (by decide +kernel)) (by decide) bndN_noex (fun _ _ _ _ _ => (gd_name (pg_name (i := 8) sc_Rule___init__.nd rfl (.inl rfl)))) (fun _ _ _ _ _ => pts_nilD) (fun _ _ _ _ _ => (pd_tup (pl_cons pd_int (pl_cons (pd_var 8 (pv 8)) pl_nil)))))) pl_nil)))) (pk_of pd_int) (fun _ _ => rfl))))))))))))), body_end (N := N_Rule___init__) (X := cxOf (L2.CX P w) P w K mg base N_Rule___init__ "Rule.__init__" (defScope s_Rule___init__) W.f_Rule___init__ cdv A outer s H E) h⟩
theorem ok_law_made (W : Facts P K mg T) : FnOk P w K mg base (L2.CX P w) 5 W.f_law_made W.fd_law_made ["_law_plan_here"] (spD K (F_law_made T)) := by
  refine W.U_law_made.okX (k := 4) sc_law_made (spD_len fun ss g e => runB_len e) (fun cdv A outer s H vs Q E hr h => ?_)
  have hu := hr.units
  exact ⟨_, (sd_one (sd_ret (pd_new (pn_make W.mk_Rule ((L2.FnOk.mono (ok_Rule___init__ W) (by decide)) ) hr (by rfl) W.g_Rule W.b_Rule___init__ (takes_of rfl rfl rfl rfl) (pl_cons (pk_ix (pk_var 0 (pv 0)) (pk_of pd_int) (fun _ _ => rfl)) (pl_cons (pk_ix (pk_var 0 (pv 0)) (pk_of pd_int) (fun _ _ => rfl)) (pl_cons (pk_ix (pk_var 0 (pv 0)) (pk_of pd_int) (fun _ _ => rfl)) (pl_cons (pk_ix (pk_var 0 (pv 0)) (pk_of pd_int) (fun _ _ => rfl)) (pl_cons (pk_ix (pk_var 0 (pv 0)) (pk_of pd_int) (fun _ _ => rfl)) pl_nil))))))))), body_end (N := N_law_made) (X := cxOf (L2.CX P w) P w K mg base N_law_made "_law_made" (defScope s_law_made) W.f_law_made cdv A outer s H E) h⟩
theorem ok_law_text (W : Facts P K mg T) : FnOk P w K mg base (L2.CX P w) 3 W.f_law_text W.fd_law_text ["_law_box", "_law_letters_here", "_law_most"] (spD K F_law_text) := by
  refine W.U_law_text.okX (k := 2) sc_law_text (spD_len fun ss g e => runB_len e) (fun cdv A outer s H vs Q E hr h => ?_)
  have hu := hr.units
  exact ⟨_, (sd_one (sd_ret (pd_join pd_str (pd_new (pn_lc (by rfl) sc_law_text.nd (pi_rng1 (by rfl) W.m_range (pd_call (L2.FnOk.mono (ok_law_pull W) (by decide)) hr (by rfl) W.g_law_pull W.kp_law_pull W.b_law_pull (takes_of rfl rfl rfl rfl) (pl_cons (pd_var 0 (pv 0)) (pl_cons (pd_add (pd_var 2 (pv 2)) pd_int) pl_nil)))) (blkOk_by (own := [("_law_at", 3)]) (N := N_law_text) (sc := defScope s_law_text) (by decide +kernel)) (by decide) bndN_noex (fun _ _ _ _ _ => (gd_name (pg_name (i := 3) sc_law_text.nd rfl (.inl rfl)))) (fun _ _ _ _ _ => pts_nilD) (fun _ _ _ _ _ => (pd_call (L2.FnOk.mono (ok_law_pick W) (by decide)) hr (by rfl) W.g_law_pick W.kp_law_pick W.b_law_pick takes0 (pl_cons (pd_var 0 (pv 0)) (pl_cons (pd_var 1 (pv 1)) pl_nil))))))))), body_end (N := N_law_text) (X := cxOf (L2.CX P w) P w K mg base N_law_text "_law_text" (defScope s_law_text) W.f_law_text cdv A outer s H E) h⟩
theorem ok_law_same_rel (W : Facts P K mg T) : FnOk P w K mg base (L2.CX P w) 1 W.f_law_same_rel W.fd_law_same_rel ["_law_many"] (spD K F_law_same_rel) := by
  refine W.U_law_same_rel.okX (k := 0) sc_law_same_rel (spD_len fun ss g e => runB_len e) (fun cdv A outer s H vs Q E hr h => ?_)
  have hu := hr.units
  exact ⟨_, (sd_one (sd_ret (pd_t1 c1_tuple call_tuple_of PyProof.Rows.boot_tuple (by rfl) W.m_tuple (pk_of (pd_new (pn_lc (by rfl) sc_law_same_rel.nd (pi_rng1 (by rfl) W.m_range (pd_var 0 (pv 0))) (blkOk_by (own := [("_law_state", 1)]) (N := N_law_same_rel) (sc := defScope s_law_same_rel) (by decide +kernel)) (by decide) bndN_noex (fun _ _ _ _ _ => (gd_name (pg_name (i := 1) sc_law_same_rel.nd rfl (.inl rfl)))) (fun _ _ _ _ _ => pts_nilD) (fun _ _ _ _ _ => (pd_shl pd_int (pd_var 1 (pv 1)))))))))), body_end (N := N_law_same_rel) (X := cxOf (L2.CX P w) P w K mg base N_law_same_rel "_law_same_rel" (defScope s_law_same_rel) W.f_law_same_rel cdv A outer s H E) h⟩
theorem ok_law_image (W : Facts P K mg T) : FnOk P w K mg base (L2.CX P w) 1 W.f_law_image W.fd_law_image ["_law_row", "_law_rel_here"] (spD K F_law_image) := by
  refine W.U_law_image.okX (k := 0) sc_law_image (spD_len fun ss g e => runB_len e) (fun cdv A outer s H vs Q E hr h => ?_)
  have hu := hr.units
  exact ⟨_, (sd_cons (sd_set pd_int (fun he => ps_set (i := 2) sc_law_image.nd rfl (.inl rfl) he))
    (sd_cons (sd_for (passes_of rfl) (by rfl) (pi_rng1 (by rfl) W.m_range (pd_b1 c1_len (call_len_seq.or call_len_str) boot_len (by rfl) W.m_len (pk_var 1 (pv 1)))) (gd_name (pg_name (i := 3) sc_law_image.nd rfl (.inl rfl))) bndN_noex (sd_one (sd_if (pkt_eq hu (pk_of (pd_and (pd_shr (pd_var 0 (pv 0)) (pd_var 3 (pv 3))) pd_int)) (pk_of pd_int)) (sd_one (sd_set (pd_or (pd_var 2 (pv 2)) (pk_ix (pk_var 1 (pv 1)) (pk_var 3 (pv 3)) (fun _ _ => rfl))) (fun he => ps_set (i := 2) sc_law_image.nd rfl (.inl rfl) he))) sd_nil)))
    (sd_one (sd_ret (pd_var 2 (pv 2)))))), body_end (N := N_law_image) (X := cxOf (L2.CX P w) P w K mg base N_law_image "_law_image" (defScope s_law_image) W.f_law_image cdv A outer s H E) h⟩
theorem ok_law_chain (W : Facts P K mg T) : FnOk P w K mg base (L2.CX P w) 2 W.f_law_chain W.fd_law_chain ["_law_one", "_law_other"] (spD K F_law_chain) := by
  refine W.U_law_chain.okX (k := 1) sc_law_chain (spD_len fun ss g e => runB_len e) (fun cdv A outer s H vs Q E hr h => ?_)
  have hu := hr.units
  exact ⟨_, (sd_one (sd_ret (pd_t1 c1_tuple call_tuple_of PyProof.Rows.boot_tuple (by rfl) W.m_tuple (pk_of (pd_new (pn_lc (by rfl) sc_law_chain.nd (pi_seq (pd_var 0 (pv 0))) (blkOk_by (own := [("_law_row", 2)]) (N := N_law_chain) (sc := defScope s_law_chain) (by decide +kernel)) (by decide) bndN_noex (fun _ _ _ _ _ => (gd_name (pg_name (i := 2) sc_law_chain.nd rfl (.inl rfl)))) (fun _ _ _ _ _ => pts_nilD) (fun _ _ _ _ _ => (pd_call (L2.FnOk.mono (ok_law_image W) (by decide)) hr (by rfl) W.g_law_image W.kp_law_image W.b_law_image takes0 (pl_cons (pd_var 2 (pv 2)) (pl_cons (pd_var 1 (pv 1)) pl_nil)))))))))), body_end (N := N_law_chain) (X := cxOf (L2.CX P w) P w K mg base N_law_chain "_law_chain" (defScope s_law_chain) W.f_law_chain cdv A outer s H E) h⟩
theorem ok_law_letter_rel (W : Facts P K mg T) : FnOk P w K mg base (L2.CX P w) 1 W.f_law_letter_rel W.fd_law_letter_rel ["_law_plan_here", "_law_letter"] (spD K F_law_letter_rel) := by
  refine W.U_law_letter_rel.okX (k := 0) sc_law_letter_rel (spD_len fun ss g e => runB_len e) (fun cdv A outer s H vs Q E hr h => ?_)
  have hu := hr.units
  exact ⟨_, (sd_cons (sn_set (pn_rep (pd_new (pn_lst (pl_cons pd_int pl_nil))) (pk_ix (pk_var 0 (pv 0)) (pk_of pd_int) (fun _ _ => rfl))) (fun he => ps_set (i := 2) sc_law_letter_rel.nd rfl (.inl rfl) he))
    (sd_cons (sd_for (passes_of rfl) (by rfl) (pi_seq (pk_ix (pk_var 0 (pv 0)) (pk_of pd_int) (fun _ _ => rfl))) (gd_tup (by rfl) (gds_cons (pg_name (i := 3) sc_law_letter_rel.nd rfl (.inl rfl)) (gds_cons (pg_name (i := 4) sc_law_letter_rel.nd rfl (.inl rfl)) (gds_cons (pg_name (i := 5) sc_law_letter_rel.nd rfl (.inl rfl)) gds_nil)))) bndT_noex (sd_one (sd_if (pkt_eq hu (pk_var 4 (pv 4)) (pk_var 1 (pv 1))) (sd_one (sd_item (pf_var 2 (pv 2)) (pd_var 3 (pv 3)) (pd_or (pk_ix (pk_var 2 (pv 2)) (pk_var 3 (pv 3)) (fun _ _ => rfl)) (pd_shl pd_int (pd_var 5 (pv 5)))))) sd_nil)))
    (sd_one (sd_ret (pd_t1 c1_tuple call_tuple_of PyProof.Rows.boot_tuple (by rfl) W.m_tuple (pk_var 2 (pv 2))))))), body_end (N := N_law_letter_rel) (X := cxOf (L2.CX P w) P w K mg base N_law_letter_rel "_law_letter_rel" (defScope s_law_letter_rel) W.f_law_letter_rel cdv A outer s H E) h⟩
theorem ok_law_rel (W : Facts P K mg T) : FnOk P w K mg base (L2.CX P w) 3 W.f_law_rel W.fd_law_rel ["_law_plan_here", "_law_text_z"] (spD K F_law_rel) := by
  refine W.U_law_rel.okX (k := 2) sc_law_rel (spD_len fun ss g e => runB_len e) (fun cdv A outer s H vs Q E hr h => ?_)
  have hu := hr.units
  exact ⟨_, (sd_cons (sd_set (pd_call (L2.FnOk.mono (ok_law_same_rel W) (by decide)) hr (by rfl) W.g_law_same_rel W.kp_law_same_rel W.b_law_same_rel (takes_of rfl rfl rfl rfl) (pl_cons (pk_ix (pk_var 0 (pv 0)) (pk_of pd_int) (fun _ _ => rfl)) pl_nil)) (fun he => ps_set (i := 2) sc_law_rel.nd rfl (.inl rfl) he))
    (sd_cons (sd_for (passes_of rfl) (by rfl) (pi_seq (pd_var 1 (pv 1))) (gd_name (pg_name (i := 3) sc_law_rel.nd rfl (.inl rfl))) bndN_noex (sd_one (sd_set (pd_call (L2.FnOk.mono (ok_law_chain W) (by decide)) hr (by rfl) W.g_law_chain W.kp_law_chain W.b_law_chain (takes_of rfl rfl rfl rfl) (pl_cons (pd_var 2 (pv 2)) (pl_cons (pd_call (L2.FnOk.mono (ok_law_letter_rel W) (by decide)) hr (by rfl) W.g_law_letter_rel W.kp_law_letter_rel W.b_law_letter_rel (takes_of rfl rfl rfl rfl) (pl_cons (pd_var 0 (pv 0)) (pl_cons (pd_var 3 (pv 3)) pl_nil))) pl_nil))) (fun he => ps_set (i := 2) sc_law_rel.nd rfl (.inl rfl) he))))
    (sd_one (sd_ret (pd_var 2 (pv 2)))))), body_end (N := N_law_rel) (X := cxOf (L2.CX P w) P w K mg base N_law_rel "_law_rel" (defScope s_law_rel) W.f_law_rel cdv A outer s H E) h⟩
theorem okn_law_like (W : Facts P K mg T) : ∀ n : Nat, FnOk P w K mg base (L2.CX P w) (0 + n) W.f_law_like W.fd_law_like ["_law_found", "_law_due"] (spD K (Fn_law_like n))
  | 0 => ⟨spD_len (n := 2) fun ss g e => absurd rfl e, fun A outer s H args us vs Q E hr he hb hv hs => by
    obtain ⟨_, _, _, _, z⟩ := hs
    exact z.elim⟩
  | n + 1 => by
    refine W.U_law_like.okX sc_law_like (spD_len fun ss g e => runB_len e) (fun cdv A outer s H vs Q E hr h => ?_)
    have hu := hr.units
    exact ⟨_, (sd_cons (sd_if (pt_tst (pd_isi2 (by rfl) W.m_isinstance (pk_var 1 (pv 1)) (by rfl) W.m_list PyProof.Rows.boot_list (by rfl) W.m_tuple PyProof.Rows.boot_tuple)) (sd_cons (sd_if (PW.pt (wd_or (pkt_ne hu (pk_of (pd_isi (by rfl) W.m_isinstance (pk_var 0 (pv 0)) (by rfl) W.m_list PyProof.Rows.boot_list)) (pk_of (pd_isi (by rfl) W.m_isinstance (pk_var 1 (pv 1)) (by rfl) W.m_list PyProof.Rows.boot_list))) (wd_or1 (pkt_ne hu (pk_of (pd_isi (by rfl) W.m_isinstance (pk_var 0 (pv 0)) (by rfl) W.m_tuple PyProof.Rows.boot_tuple)) (pk_of (pd_isi (by rfl) W.m_isinstance (pk_var 1 (pv 1)) (by rfl) W.m_tuple PyProof.Rows.boot_tuple)))))) (sd_one (sd_ret pd_bl)) sd_nil)
    (sd_one (sd_ret (pd_andV (pk_eq hu (pk_of (pd_b1 c1_len (call_len_seq.or call_len_str) boot_len (by rfl) W.m_len (pk_var 0 (pv 0)))) (pk_of (pd_b1 c1_len (call_len_seq.or call_len_str) boot_len (by rfl) W.m_len (pk_var 1 (pv 1))))) (pd_one (pd_b1 c1_all (cr_all rfl) (by decide +kernel) (by rfl) W.m_all (pk_of (pd_new (pn_lc (by rfl) sc_law_like.nd (pi_rng1 (by rfl) W.m_range (pd_b1 c1_len (call_len_seq.or call_len_str) boot_len (by rfl) W.m_len (pk_var 1 (pv 1)))) (blkOk_by (own := [("_law_at", 2)]) (N := N_law_like) (sc := defScope s_law_like) (by decide +kernel)) (by decide) bndN_noex (fun _ _ _ _ _ => (gd_name (pg_name (i := 2) sc_law_like.nd rfl (.inl rfl)))) (fun _ _ _ _ _ => pts_nilD) (fun _ _ _ _ _ => (pd_call (okn_law_like W n) hr (by rfl) W.g_law_like W.kp_law_like W.b_law_like takes0 (pl_cons (pk_ix (pk_var 0 (pv 0)) (pk_var 2 (pv 2)) (fun _ _ => rfl)) (pl_cons (pk_ix (pk_var 1 (pv 1)) (pk_var 2 (pv 2)) (fun _ _ => rfl)) pl_nil))))))))))))) sd_nil)
    (sd_cons (sd_if (PW.pt (wd_or (pt_tst (pd_isi2 (by rfl) W.m_isinstance (pk_var 0 (pv 0)) (by rfl) W.m_list PyProof.Rows.boot_list (by rfl) W.m_tuple PyProof.Rows.boot_tuple)) (wd_or1 (pkt_ne hu (pk_of (pd_isi (by rfl) W.m_isinstance (pk_var 0 (pv 0)) (by rfl) W.m_bool PyProof.Rows.boot_bool)) (pk_of (pd_isi (by rfl) W.m_isinstance (pk_var 1 (pv 1)) (by rfl) W.m_bool PyProof.Rows.boot_bool)))))) (sd_one (sd_ret pd_bl)) sd_nil)
    (sd_one (sd_ret (pk_eq hu (pk_var 0 (pv 0)) (pk_var 1 (pv 1))))))), body_end (N := N_law_like) (X := cxOf (L2.CX P w) P w K mg base N_law_like "_law_like" (defScope s_law_like) W.f_law_like cdv A outer s H E) h⟩
theorem ok_law_like (W : Facts P K mg T) : FnOk P w K mg base (L2.CX P w) 6 W.f_law_like W.fd_law_like ["_law_found", "_law_due"] (spD K F_law_like) := okn_law_like W 6
theorem ok_Rule_check_text (W : Facts P K mg T) : FnOk P w K mg base (L2.CX P w) 3 W.f_Rule_check_text W.fd_Rule_check_text ["self", "text"] (spD K (F_Rule_check_text T)) := by
  refine W.U_Rule_check_text.okX (k := 2) sc_Rule_check_text (spD_len fun ss g e => runB_len e) (fun cdv A outer s H vs Q E hr h => ?_)
  have hu := hr.units
  have hu65 := units65 hr
  exact ⟨_, (sd_one (sd_for (passes_of rfl) (by rfl) (pi_enumD (by rfl) W.m_enumerate (pd_var 1 (pv 1))) (gd_tup (by rfl) (gds_cons (pg_name (i := 2) sc_Rule_check_text.nd rfl (.inl rfl)) (gds_cons (pg_name (i := 3) sc_Rule_check_text.nd rfl (.inl rfl)) gds_nil))) bndT_noex (sd_one (sd_if (pkt_notIn hu65 (pk_var 3 (pv 3)) (pk_of (pk_fld W.cls_Rule W.na_Rule_own_letters (pk_var 0 (pv 0))))) (sd_one (sd_raise (by rfl) (takes_of rfl rfl rfl rfl) W.ec_InvalidText.cls W.ei_InvalidText W.et_InvalidText ((ok_err_InvalidText W).mono (by decide)) hr (eb_InvalidText W) (by rfl) W.g_InvalidText (pl_cons (pd_var 2 (pv 2)) pl_nil))) sd_nil)))), body_end (N := N_Rule_check_text) (X := cxOf (L2.CX P w) P w K mg base N_Rule_check_text "Rule.check_text" (defScope s_Rule_check_text) W.f_Rule_check_text cdv A outer s H E) h⟩
theorem ok_identity (W : Facts P K mg T) : FnOk P w K mg base (L2.CX P w) 1 W.f_identity W.fd_identity ["states"] (spD K F_identity) := by
  refine W.U_identity.okX (k := 0) sc_identity (spD_len fun ss g e => runB_len e) (fun cdv A outer s H vs Q E hr h => ?_)
  have hu := hr.units
  exact ⟨_, (sd_one (sd_ret (pd_t1 c1_tuple call_tuple_of PyProof.Rows.boot_tuple (by rfl) W.m_tuple (pk_of (pd_new (pn_lc (by rfl) sc_identity.nd (pi_rng1 (by rfl) W.m_range (pd_var 0 (pv 0))) (blkOk_by (own := [("state", 1)]) (N := N_identity) (sc := defScope s_identity) (by decide +kernel)) (by decide) bndN_noex (fun _ _ _ _ _ => (gd_name (pg_name (i := 1) sc_identity.nd rfl (.inl rfl)))) (fun _ _ _ _ _ => pts_nilD) (fun _ _ _ _ _ => (pd_shl pd_int (pd_var 1 (pv 1)))))))))), body_end (N := N_identity) (X := cxOf (L2.CX P w) P w K mg base N_identity "identity" (defScope s_identity) W.f_identity cdv A outer s H E) h⟩
theorem ok_bits_of (W : Facts P K mg T) : FnOk P w K mg base (L2.CX P w) 1 W.f_bits_of W.fd_bits_of ["row", "states"] (spD K F_bits_of) := by
  refine W.U_bits_of.okX (k := 0) sc_bits_of (spD_len fun ss g e => runB_len e) (fun cdv A outer s H vs Q E hr h => ?_)
  have hu := hr.units
  exact ⟨_, (sd_one (sd_ret (pd_new (pn_lc (by rfl) sc_bits_of.nd (pi_rng1 (by rfl) W.m_range (pd_var 1 (pv 1))) (blkOk_by (own := [("state", 2)]) (N := N_bits_of) (sc := defScope s_bits_of) (by decide +kernel)) (by decide) bndN_noex (fun _ _ _ _ _ => (gd_name (pg_name (i := 2) sc_bits_of.nd rfl (.inl rfl)))) (fun _ _ _ _ _ => (pts_oneD (pkt_eq hu (pk_of (pd_and (pd_shr (pd_var 0 (pv 0)) (pd_var 2 (pv 2))) pd_int)) (pk_of pd_int)))) (fun _ _ _ _ _ => (pd_var 2 (pv 2))))))), body_end (N := N_bits_of) (X := cxOf (L2.CX P w) P w K mg base N_bits_of "bits_of" (defScope s_bits_of) W.f_bits_of cdv A outer s H E) h⟩
theorem ok_image (W : Facts P K mg T) : FnOk P w K mg base (L2.CX P w) 2 W.f_image W.fd_image ["row", "relation"] (spD K F_image) := by
  refine W.U_image.okX (k := 1) sc_image (spD_len fun ss g e => runB_len e) (fun cdv A outer s H vs Q E hr h => ?_)
  have hu := hr.units
  exact ⟨_, (sd_cons (sd_set pd_int (fun he => ps_set (i := 2) sc_image.nd rfl (.inl rfl) he))
    (sd_cons (sd_for (passes_of rfl) (by rfl) (pi_seq (pd_call (L2.FnOk.mono (ok_bits_of W) (by decide)) hr (by rfl) W.g_bits_of W.kp_bits_of W.b_bits_of (takes_of rfl rfl rfl rfl) (pl_cons (pd_var 0 (pv 0)) (pl_cons (pd_b1 c1_len (call_len_seq.or call_len_str) boot_len (by rfl) W.m_len (pk_var 1 (pv 1))) pl_nil)))) (gd_name (pg_name (i := 3) sc_image.nd rfl (.inl rfl))) bndN_noex (sd_one (sd_set (pd_or (pd_var 2 (pv 2)) (pk_ix (pk_var 1 (pv 1)) (pk_var 3 (pv 3)) (fun _ _ => rfl))) (fun he => ps_set (i := 2) sc_image.nd rfl (.inl rfl) he))))
    (sd_one (sd_ret (pd_var 2 (pv 2)))))), body_end (N := N_image) (X := cxOf (L2.CX P w) P w K mg base N_image "image" (defScope s_image) W.f_image cdv A outer s H E) h⟩
theorem ok_joined (W : Facts P K mg T) : FnOk P w K mg base (L2.CX P w) 3 W.f_joined W.fd_joined ["one", "other"] (spD K F_joined) := by
  refine W.U_joined.okX (k := 2) sc_joined (spD_len fun ss g e => runB_len e) (fun cdv A outer s H vs Q E hr h => ?_)
  have hu := hr.units
  exact ⟨_, (sd_one (sd_ret (pd_t1 c1_tuple call_tuple_of PyProof.Rows.boot_tuple (by rfl) W.m_tuple (pk_of (pd_new (pn_lc (by rfl) sc_joined.nd (pi_seq (pd_var 0 (pv 0))) (blkOk_by (own := [("row", 2)]) (N := N_joined) (sc := defScope s_joined) (by decide +kernel)) (by decide) bndN_noex (fun _ _ _ _ _ => (gd_name (pg_name (i := 2) sc_joined.nd rfl (.inl rfl)))) (fun _ _ _ _ _ => pts_nilD) (fun _ _ _ _ _ => (pd_call (L2.FnOk.mono (ok_image W) (by decide)) hr (by rfl) W.g_image W.kp_image W.b_image takes0 (pl_cons (pd_var 2 (pv 2)) (pl_cons (pd_var 1 (pv 1)) pl_nil)))))))))), body_end (N := N_joined) (X := cxOf (L2.CX P w) P w K mg base N_joined "joined" (defScope s_joined) W.f_joined cdv A outer s H E) h⟩
theorem ok_Rule_relation (W : Facts P K mg T) : FnOk P w K mg base (L2.CX P w) 4 W.f_Rule_relation W.fd_Rule_relation ["self", "text"] (spD K (F_Rule_relation T)) := by
  refine W.U_Rule_relation.okX (k := 3) sc_Rule_relation (spD_len fun ss g e => runB_len e) (fun cdv A outer s H vs Q E hr h => ?_)
  have hu := hr.units
  exact ⟨_, (sd_cons (sd_expr (pd_meth W.cls_Rule W.me_Rule_check_text ((L2.FnOk.mono (ok_Rule_check_text W) (by decide)) ) hr W.b_Rule_check_text (takes_of rfl rfl rfl rfl) (pd_var 0 (pv 0)) (pl_cons (pd_var 1 (pv 1)) pl_nil)))
    (sd_cons (sd_set (pd_call (L2.FnOk.mono (ok_identity W) (by decide)) hr (by rfl) W.g_identity W.kp_identity W.b_identity (takes_of rfl rfl rfl rfl) (pl_cons (pk_fld W.cls_Rule W.na_Rule_own_states (pk_var 0 (pv 0))) pl_nil)) (fun he => ps_set (i := 2) sc_Rule_relation.nd rfl (.inl rfl) he))
    (sd_cons (sd_for (passes_of rfl) (by rfl) (pi_seq (pd_var 1 (pv 1))) (gd_name (pg_name (i := 3) sc_Rule_relation.nd rfl (.inl rfl))) bndN_noex (sd_one (sd_set (pd_call (L2.FnOk.mono (ok_joined W) (by decide)) hr (by rfl) W.g_joined W.kp_joined W.b_joined (takes_of rfl rfl rfl rfl) (pl_cons (pd_var 2 (pv 2)) (pl_cons (pk_dget (L2.hu_of hr) (pk_of (pk_fld W.cls_Rule W.na_Rule_by_letter (pk_var 0 (pv 0)))) (pk_var 3 (pv 3)) (fun _ _ => rfl)) pl_nil))) (fun he => ps_set (i := 2) sc_Rule_relation.nd rfl (.inl rfl) he))))
    (sd_one (sd_ret (pd_var 2 (pv 2))))))), body_end (N := N_Rule_relation) (X := cxOf (L2.CX P w) P w K mg base N_Rule_relation "Rule.relation" (defScope s_Rule_relation) W.f_Rule_relation cdv A outer s H E) h⟩
theorem ok_Rule_ahead (W : Facts P K mg T) : FnOk P w K mg base (L2.CX P w) 1 W.f_Rule_ahead W.fd_Rule_ahead ["self", "text", "ends"] (spD K (F_Rule_ahead T)) := by
  refine W.U_Rule_ahead.okX (k := 0) sc_Rule_ahead (spD_len fun ss g e => runB_len e) (fun cdv A outer s H vs Q E hr h => ?_)
  have hu := hr.units
  exact ⟨_, (sd_cons (sn_set (pn_lst (pl_cons (pd_var 2 (pv 2)) pl_nil)) (fun he => ps_set (i := 3) sc_Rule_ahead.nd rfl (.inr rfl) he))
    (sd_cons (sd_for (passes_of rfl) (by rfl) (pi_seq (pk_revA (pk_var 1 (pv 1)))) (gd_name (pg_name (i := 4) sc_Rule_ahead.nd rfl (.inl rfl))) bndN_noex (sd_cons (sd_set (pk_dget (L2.hu_of hr) (pk_of (pk_fld W.cls_Rule W.na_Rule_by_letter (pk_var 0 (pv 0)))) (pk_var 4 (pv 4)) (fun _ _ => rfl)) (fun he => ps_set (i := 5) sc_Rule_ahead.nd rfl (.inr rfl) he))
    (sd_one (sd_expr (pm_append (pf_var 3 (pv 3)) (pd_b1 c1_sum (cr_sum rfl) (by decide +kernel) (by rfl) W.m_sum (pk_of (pd_new (pn_lc (by rfl) sc_Rule_ahead.nd (pi_rng1 (by rfl) W.m_range (pk_fld W.cls_Rule W.na_Rule_own_states (pk_var 0 (pv 0)))) (blkOk_by (own := [("state", 6)]) (N := N_Rule_ahead) (sc := defScope s_Rule_ahead) (by decide +kernel)) (by decide) bndN_noex (fun _ _ _ _ _ => (gd_name (pg_name (i := 6) sc_Rule_ahead.nd rfl (.inl rfl)))) (fun _ _ _ _ _ => (pts_oneD (pkt_ne hu (pk_of (pd_and (pk_ix (pk_var 5 (pv 5)) (pk_var 6 (pv 6)) (fun _ _ => rfl)) (pk_ix (pk_var 3 (pv 3)) (pk_of (pd_neg pd_int)) (fun _ _ => rfl)))) (pk_of pd_int)))) (fun _ _ _ _ _ => (pd_shl pd_int (pd_var 6 (pv 6)))))))))))))
    (sd_one (sd_ret (pk_revA (pk_var 3 (pv 3))))))), body_end (N := N_Rule_ahead) (X := cxOf (L2.CX P w) P w K mg base N_Rule_ahead "Rule.ahead" (defScope s_Rule_ahead) W.f_Rule_ahead cdv A outer s H E) h⟩
theorem ok_Rule_run (W : Facts P K mg T) : FnOk P w K mg base (L2.CX P w) 4 W.f_Rule_run W.fd_Rule_run ["self", "text", "starts", "ends"] (spD K (F_Rule_run T)) := by
  refine W.U_Rule_run.okX (k := 3) sc_Rule_run (spD_len fun ss g e => runB_len e) (fun cdv A outer s H vs Q E hr h => ?_)
  have hu := hr.units
  exact ⟨_, (sd_cons (sd_expr (pd_meth W.cls_Rule W.me_Rule_check_text ((L2.FnOk.mono (ok_Rule_check_text W) (by decide)) ) hr W.b_Rule_check_text (takes_of rfl rfl rfl rfl) (pd_var 0 (pv 0)) (pl_cons (pd_var 1 (pv 1)) pl_nil)))
    (sd_cons (sd_set (pd_b1 c1_sum (cr_sum rfl) (by decide +kernel) (by rfl) W.m_sum (pk_of (pd_new (pn_lc (by rfl) sc_Rule_run.nd (pi_seq (pd_new (pn_sortedSc (by rfl) W.m_sorted (by rfl) sc_Rule_run.nd (pi_seq (pd_var 3 (pv 3))) (blkOk_by (own := [("state", 10)]) (N := N_Rule_run) (sc := defScope s_Rule_run) (by decide +kernel)) (by decide) bndN_noex (fun _ _ _ _ _ => (gd_name (pg_name (i := 10) sc_Rule_run.nd rfl (.inl rfl)))) (fun _ _ _ _ _ => pts_nilD) (fun _ _ _ _ _ => (pd_var 10 (pv 10)))))) (blkOk_by (own := [("state", 10)]) (N := N_Rule_run) (sc := defScope s_Rule_run) (by decide +kernel)) (by decide) bndN_noex (fun _ _ _ _ _ => (gd_name (pg_name (i := 10) sc_Rule_run.nd rfl (.inl rfl)))) (fun _ _ _ _ _ => pts_nilD) (fun _ _ _ _ _ => (pd_shl pd_int (pd_var 10 (pv 10)))))))) (fun he => ps_set (i := 4) sc_Rule_run.nd rfl (.inl rfl) he))
    (sd_cons (sd_set (pd_meth W.cls_Rule W.me_Rule_ahead ((L2.FnOk.mono (ok_Rule_ahead W) (by decide)) ) hr W.b_Rule_ahead (takes_of rfl rfl rfl rfl) (pd_var 0 (pv 0)) (pl_cons (pd_var 1 (pv 1)) (pl_cons (pd_var 4 (pv 4)) pl_nil))) (fun he => ps_set (i := 5) sc_Rule_run.nd rfl (.inr rfl) he))
    (sd_cons (sd_setLc (i := 6) (by rfl) sc_Rule_run.nd rfl rfl (sw_true rfl rfl rfl (by decide +kernel)) (pi_seq (pd_new (pn_sortedSc (by rfl) W.m_sorted (by rfl) sc_Rule_run.nd (pi_seq (pd_var 2 (pv 2))) (blkOk_by (own := [("state", 10)]) (N := N_Rule_run) (sc := defScope s_Rule_run) (by decide +kernel)) (by decide) bndN_noex (fun _ _ _ _ _ => (gd_name (pg_name (i := 10) sc_Rule_run.nd rfl (.inl rfl)))) (fun _ _ _ _ _ => pts_nilD) (fun _ _ _ _ _ => (pd_var 10 (pv 10)))))) (blkOk_by (own := [("state", 10)]) (N := N_Rule_run) (sc := defScope s_Rule_run) (by decide +kernel)) (by decide) bndN_noex (fun _ _ _ _ _ => (gd_name (pg_name (i := 10) sc_Rule_run.nd rfl (.inl rfl)))) (fun _ _ _ _ _ => (pts_oneD (pkt_eq hu (pk_of (pd_and (pd_shr (pk_ix (pk_var 5 (pv 5)) (pk_of pd_int) (fun _ _ => rfl)) (pd_var 10 (pv 10))) pd_int)) (pk_of pd_int)))) (fun _ _ _ _ _ => (pd_var 10 (pv 10))))
    (sd_cons (sd_if (pkt_eq hu (pk_var 6 (pv 6)) (pk_of (pd_new (pn_lst pl_nil)))) (sd_one (sd_ret pd_non)) sd_nil)
    (sd_cons (sn_set (pn_lst (pl_cons (pk_ix (pk_var 6 (pv 6)) (pk_of pd_int) (fun _ _ => rfl)) pl_nil)) (fun he => ps_set (i := 7) sc_Rule_run.nd rfl (.inl rfl) he))
    (sd_cons (sd_for (passes_of rfl) (by rfl) (pi_enumD (by rfl) W.m_enumerate (pd_var 1 (pv 1))) (gd_tup (by rfl) (gds_cons (pg_name (i := 8) sc_Rule_run.nd rfl (.inl rfl)) (gds_cons (pg_name (i := 9) sc_Rule_run.nd rfl (.inl rfl)) gds_nil))) bndT_noex (sd_one (sd_expr (pm_append (pf_var 7 (pv 7)) (pk_ix (pk_of (pd_call (L2.FnOk.mono (ok_bits_of W) (by decide)) hr (by rfl) W.g_bits_of W.kp_bits_of W.b_bits_of (takes_of rfl rfl rfl rfl) (pl_cons (pd_and (pk_ix (pk_of (pk_dget (L2.hu_of hr) (pk_of (pk_fld W.cls_Rule W.na_Rule_by_letter (pk_var 0 (pv 0)))) (pk_var 9 (pv 9)) (fun _ _ => rfl))) (pk_of (pk_ix (pk_var 7 (pv 7)) (pk_of (pd_neg pd_int)) (fun _ _ => rfl))) (fun _ _ => rfl)) (pk_ix (pk_var 5 (pv 5)) (pk_of (pd_add (pd_var 8 (pv 8)) pd_int)) (fun _ _ => rfl))) (pl_cons (pk_fld W.cls_Rule W.na_Rule_own_states (pk_var 0 (pv 0))) pl_nil)))) (pk_of pd_int) (fun _ _ => rfl))))))
    (sd_one (sd_ret (pd_t1 c1_tuple call_tuple_of PyProof.Rows.boot_tuple (by rfl) W.m_tuple (pk_var 7 (pv 7)))))))))))), body_end (N := N_Rule_run) (X := cxOf (L2.CX P w) P w K mg base N_Rule_run "Rule.run" (defScope s_Rule_run) W.f_Rule_run cdv A outer s H E) h⟩
theorem ok_Rule_first (W : Facts P K mg T) : FnOk P w K mg base (L2.CX P w) 2 W.f_Rule_first W.fd_Rule_first ["self"] (spD K (F_Rule_first T)) := by
  refine W.U_Rule_first.okX (k := 1) sc_Rule_first (spD_len fun ss g e => runB_len e) (fun cdv A outer s H vs Q E hr h => ?_)
  have hu := hr.units
  exact ⟨_, (sd_one (sd_ret (pd_call (L2.FnOk.mono (ok_bits_of W) (by decide)) hr (by rfl) W.g_bits_of W.kp_bits_of W.b_bits_of (takes_of rfl rfl rfl rfl) (pl_cons (pk_fld W.cls_Rule W.na_Rule_first_bits (pk_var 0 (pv 0))) (pl_cons (pk_fld W.cls_Rule W.na_Rule_own_states (pk_var 0 (pv 0))) pl_nil))))), body_end (N := N_Rule_first) (X := cxOf (L2.CX P w) P w K mg base N_Rule_first "Rule.first" (defScope s_Rule_first) W.f_Rule_first cdv A outer s H E) h⟩
theorem ok_Rule_last (W : Facts P K mg T) : FnOk P w K mg base (L2.CX P w) 2 W.f_Rule_last W.fd_Rule_last ["self"] (spD K (F_Rule_last T)) := by
  refine W.U_Rule_last.okX (k := 1) sc_Rule_last (spD_len fun ss g e => runB_len e) (fun cdv A outer s H vs Q E hr h => ?_)
  have hu := hr.units
  exact ⟨_, (sd_one (sd_ret (pd_call (L2.FnOk.mono (ok_bits_of W) (by decide)) hr (by rfl) W.g_bits_of W.kp_bits_of W.b_bits_of (takes_of rfl rfl rfl rfl) (pl_cons (pk_fld W.cls_Rule W.na_Rule_last_bits (pk_var 0 (pv 0))) (pl_cons (pk_fld W.cls_Rule W.na_Rule_own_states (pk_var 0 (pv 0))) pl_nil))))), body_end (N := N_Rule_last) (X := cxOf (L2.CX P w) P w K mg base N_Rule_last "Rule.last" (defScope s_Rule_last) W.f_Rule_last cdv A outer s H E) h⟩
theorem ok_Rule_least_marking (W : Facts P K mg T) : FnOk P w K mg base (L2.CX P w) 5 W.f_Rule_least_marking W.fd_Rule_least_marking ["self", "text"] (spD K (F_Rule_least_marking T)) := by
  refine W.U_Rule_least_marking.okX (k := 4) sc_Rule_least_marking (spD_len fun ss g e => runB_len e) (fun cdv A outer s H vs Q E hr h => ?_)
  have hu := hr.units
  exact ⟨_, (sd_one (sd_ret (pd_meth W.cls_Rule W.me_Rule_run ((L2.FnOk.mono (ok_Rule_run W) (by decide)) ) hr W.b_Rule_run (takes_of rfl rfl rfl rfl) (pd_var 0 (pv 0)) (pl_cons (pd_var 1 (pv 1)) (pl_cons (pd_meth0 W.cls_Rule W.me_Rule_first ((L2.FnOk.mono (ok_Rule_first W) (by decide)) ) hr W.b_Rule_first (takes_of rfl rfl rfl rfl) (pd_var 0 (pv 0))) (pl_cons (pd_meth0 W.cls_Rule W.me_Rule_last ((L2.FnOk.mono (ok_Rule_last W) (by decide)) ) hr W.b_Rule_last (takes_of rfl rfl rfl rfl) (pd_var 0 (pv 0))) pl_nil)))))), body_end (N := N_Rule_least_marking) (X := cxOf (L2.CX P w) P w K mg base N_Rule_least_marking "Rule.least_marking" (defScope s_Rule_least_marking) W.f_Rule_least_marking cdv A outer s H E) h⟩
theorem ok_Rule___call__ (W : Facts P K mg T) : FnOk P w K mg base (L2.CX P w) 6 W.f_Rule___call__ W.fd_Rule___call__ ["self", "text"] (spD K (F_Rule___call__ T)) := by
  refine W.U_Rule___call__.okX (k := 5) sc_Rule___call__ (spD_len fun ss g e => runB_len e) (fun cdv A outer s H vs Q E hr h => ?_)
  have hu := hr.units
  exact ⟨_, (sd_one (sd_ret (pd_meth W.cls_Rule W.me_Rule_least_marking ((L2.FnOk.mono (ok_Rule_least_marking W) (by decide)) ) hr W.b_Rule_least_marking (takes_of rfl rfl rfl rfl) (pd_var 0 (pv 0)) (pl_cons (pd_var 1 (pv 1)) pl_nil)))), body_end (N := N_Rule___call__) (X := cxOf (L2.CX P w) P w K mg base N_Rule___call__ "Rule.__call__" (defScope s_Rule___call__) W.f_Rule___call__ cdv A outer s H E) h⟩
theorem ok_is_related (W : Facts P K mg T) : FnOk P w K mg base (L2.CX P w) 1 W.f_is_related W.fd_is_related ["relation", "first", "second"] (spD K F_is_related) := by
  refine W.U_is_related.okX (k := 0) sc_is_related (spD_len fun ss g e => runB_len e) (fun cdv A outer s H vs Q E hr h => ?_)
  have hu := hr.units
  exact ⟨_, (sd_one (sd_ret (pk_eq hu (pk_of (pd_and (pd_shr (pk_ix (pk_var 0 (pv 0)) (pk_var 1 (pv 1)) (fun _ _ => rfl)) (pd_var 2 (pv 2))) pd_int)) (pk_of pd_int)))), body_end (N := N_is_related) (X := cxOf (L2.CX P w) P w K mg base N_is_related "is_related" (defScope s_is_related) W.f_is_related cdv A outer s H E) h⟩
theorem ok_Rule_how_many (W : Facts P K mg T) : FnOk P w K mg base (L2.CX P w) 4 W.f_Rule_how_many W.fd_Rule_how_many ["self", "text"] (spD K (F_Rule_how_many T)) := by
  refine W.U_Rule_how_many.okX (k := 3) sc_Rule_how_many (spD_len fun ss g e => runB_len e) (fun cdv A outer s H vs Q E hr h => ?_)
  have hu := hr.units
  exact ⟨_, (sd_cons (sd_expr (pd_meth W.cls_Rule W.me_Rule_check_text ((L2.FnOk.mono (ok_Rule_check_text W) (by decide)) ) hr W.b_Rule_check_text (takes_of rfl rfl rfl rfl) (pd_var 0 (pv 0)) (pl_cons (pd_var 1 (pv 1)) pl_nil)))
    (sd_cons (sd_set (pd_new (pn_lc (by rfl) sc_Rule_how_many.nd (pi_rng1 (by rfl) W.m_range (pk_fld W.cls_Rule W.na_Rule_own_states (pk_var 0 (pv 0)))) (blkOk_by (own := [("state", 5)]) (N := N_Rule_how_many) (sc := defScope s_Rule_how_many) (by decide +kernel)) (by decide) bndN_noex (fun _ _ _ _ _ => (gd_name (pg_name (i := 5) sc_Rule_how_many.nd rfl (.inl rfl)))) (fun _ _ _ _ _ => pts_nilD) (fun _ _ _ _ _ => (pd_and (pd_shr (pk_fld W.cls_Rule W.na_Rule_first_bits (pk_var 0 (pv 0))) (pd_var 5 (pv 5))) pd_int)))) (fun he => ps_set (i := 2) sc_Rule_how_many.nd rfl (.inr rfl) he))
    (sd_cons (sd_for (passes_of rfl) (by rfl) (pi_seq (pd_var 1 (pv 1))) (gd_name (pg_name (i := 3) sc_Rule_how_many.nd rfl (.inl rfl))) bndN_noex (sd_cons (sd_set (pk_dget (L2.hu_of hr) (pk_of (pk_fld W.cls_Rule W.na_Rule_by_letter (pk_var 0 (pv 0)))) (pk_var 3 (pv 3)) (fun _ _ => rfl)) (fun he => ps_set (i := 4) sc_Rule_how_many.nd rfl (.inr rfl) he))
    (sd_one (sd_set (pd_new (pn_lc (by rfl) sc_Rule_how_many.nd (pi_rng1 (by rfl) W.m_range (pk_fld W.cls_Rule W.na_Rule_own_states (pk_var 0 (pv 0)))) (blkOk_by (own := [("other", 6)]) (N := N_Rule_how_many) (sc := defScope s_Rule_how_many) (by decide +kernel)) (by decide) bndN_noex (fun _ _ _ _ _ => (gd_name (pg_name (i := 6) sc_Rule_how_many.nd rfl (.inr rfl)))) (fun _ _ _ _ _ => pts_nilD) (fun _ _ _ _ _ => (pd_b1 c1_sum (cr_sum rfl) (by decide +kernel) (by rfl) W.m_sum (pk_of (pd_new (pn_lc (by rfl) sc_Rule_how_many.nd (pi_rng1 (by rfl) W.m_range (pk_fld W.cls_Rule W.na_Rule_own_states (pk_var 0 (pv 0)))) (blkOk_by (own := [("one", 7)]) (N := N_Rule_how_many) (sc := _) (by rfl)) (by decide) bndN_noex (fun _ _ _ _ _ => (gd_name (pg_name (i := 7) sc_Rule_how_many.nd rfl (.inl rfl)))) (fun _ _ _ _ _ => (pts_oneD (pt_tst (pd_call (L2.FnOk.mono (ok_is_related W) (by decide)) hr (by rfl) W.g_is_related W.kp_is_related W.b_is_related takes0 (pl_cons (pd_var 4 (pv 4)) (pl_cons (pd_var 7 (pv 7)) (pl_cons (pd_var 6 (pv 6)) pl_nil))))))) (fun _ _ _ _ _ => (pk_ix (pk_var 2 (pv 2)) (pk_var 7 (pv 7)) (fun _ _ => rfl)))))))))) (fun he => ps_set (i := 2) sc_Rule_how_many.nd rfl (.inr rfl) he)))))
    (sd_one (sd_ret (pd_b1 c1_sum (cr_sum rfl) (by decide +kernel) (by rfl) W.m_sum (pk_of (pd_new (pn_lc (by rfl) sc_Rule_how_many.nd (pi_seq (pd_meth0 W.cls_Rule W.me_Rule_last ((L2.FnOk.mono (ok_Rule_last W) (by decide)) ) hr W.b_Rule_last (takes_of rfl rfl rfl rfl) (pd_var 0 (pv 0)))) (blkOk_by (own := [("state", 5)]) (N := N_Rule_how_many) (sc := defScope s_Rule_how_many) (by decide +kernel)) (by decide) bndN_noex (fun _ _ _ _ _ => (gd_name (pg_name (i := 5) sc_Rule_how_many.nd rfl (.inl rfl)))) (fun _ _ _ _ _ => pts_nilD) (fun _ _ _ _ _ => (pk_ix (pk_var 2 (pv 2)) (pk_var 5 (pv 5)) (fun _ _ => rfl)))))))))))), body_end (N := N_Rule_how_many) (X := cxOf (L2.CX P w) P w K mg base N_Rule_how_many "Rule.how_many" (defScope s_Rule_how_many) W.f_Rule_how_many cdv A outer s H E) h⟩
theorem ok_Rule_states (W : Facts P K mg T) : FnOk P w K mg base (L2.CX P w) 1 W.f_Rule_states W.fd_Rule_states ["self"] (spD K (F_Rule_states T)) := by
  refine W.U_Rule_states.okX (k := 0) sc_Rule_states (spD_len fun ss g e => runB_len e) (fun cdv A outer s H vs Q E hr h => ?_)
  have hu := hr.units
  exact ⟨_, (sd_one (sd_ret (pk_fld W.cls_Rule W.na_Rule_own_states (pk_var 0 (pv 0))))), body_end (N := N_Rule_states) (X := cxOf (L2.CX P w) P w K mg base N_Rule_states "Rule.states" (defScope s_Rule_states) W.f_Rule_states cdv A outer s H E) h⟩
theorem ok_is_run (W : Facts P K mg T) : FnOk P w K mg base (L2.CX P w) 3 W.f_is_run W.fd_is_run ["rule", "text", "states"] (spD K (F_is_run T)) := by
  refine W.U_is_run.okX (k := 2) sc_is_run (spD_len fun ss g e => runB_len e) (fun cdv A outer s H vs Q E hr h => ?_)
  have hu := hr.units
  exact ⟨_, (sd_cons (sd_if (PW.pt (wd_or (pkt_ne hu (pk_of (pd_b1 c1_len (call_len_seq.or call_len_str) boot_len (by rfl) W.m_len (pk_var 2 (pv 2)))) (pk_of (pd_add (pd_b1 c1_len (call_len_seq.or call_len_str) boot_len (by rfl) W.m_len (pk_var 1 (pv 1))) pd_int))) (wd_or1 (pt_notD (pt_tst (pd_b1 c1_all (cr_all rfl) (by decide +kernel) (by rfl) W.m_all (pk_of (pd_new (pn_lc (by rfl) sc_is_run.nd (pi_seq (pd_var 2 (pv 2))) (blkOk_by (own := [("state", 3)]) (N := N_is_run) (sc := defScope s_is_run) (by decide +kernel)) (by decide) bndN_noex (fun _ _ _ _ _ => (gd_name (pg_name (i := 3) sc_is_run.nd rfl (.inl rfl)))) (fun _ _ _ _ _ => pts_nilD) (fun _ _ _ _ _ => (pd_call (L2.FnOk.mono (ok_is_number W) (by decide)) hr (by rfl) W.g_is_number W.kp_is_number W.b_is_number takes0 (pl_cons (pd_var 3 (pv 3)) (pl_cons pd_int (pl_cons (pd_sub (pd_prop W.cls_Rule W.pr_Rule_states ((L2.FnOk.mono (ok_Rule_states W) (by decide)) ) hr W.b_Rule_states (pd_var 0 (pv 0))) pd_int) pl_nil)))))))))))))) (sd_one (sd_ret pd_bl)) sd_nil)
    (sd_one (sd_ret (pd_b1 c1_all (cr_all rfl) (by decide +kernel) (by rfl) W.m_all (pk_of (pd_new (pn_lc (by rfl) sc_is_run.nd (pi_rng1 (by rfl) W.m_range (pd_b1 c1_len (call_len_seq.or call_len_str) boot_len (by rfl) W.m_len (pk_var 1 (pv 1)))) (blkOk_by (own := [("at", 4)]) (N := N_is_run) (sc := defScope s_is_run) (by decide +kernel)) (by decide) bndN_noex (fun _ _ _ _ _ => (gd_name (pg_name (i := 4) sc_is_run.nd rfl (.inl rfl)))) (fun _ _ _ _ _ => pts_nilD) (fun _ _ _ _ _ => (pd_call (L2.FnOk.mono (ok_is_related W) (by decide)) hr (by rfl) W.g_is_related W.kp_is_related W.b_is_related takes0 (pl_cons (pk_dget (L2.hu_of hr) (pk_of (pk_fld W.cls_Rule W.na_Rule_by_letter (pk_var 0 (pv 0)))) (pk_of (pk_ix (pk_var 1 (pv 1)) (pk_var 4 (pv 4)) (fun _ _ => rfl))) (fun _ _ => rfl)) (pl_cons (pk_ix (pk_var 2 (pv 2)) (pk_var 4 (pv 4)) (fun _ _ => rfl)) (pl_cons (pk_ix (pk_var 2 (pv 2)) (pk_of (pd_add (pd_var 4 (pv 4)) pd_int)) (fun _ _ => rfl)) pl_nil)))))))))))), body_end (N := N_is_run) (X := cxOf (L2.CX P w) P w K mg base N_is_run "is_run" (defScope s_is_run) W.f_is_run cdv A outer s H E) h⟩
theorem ok_Rule_is_marking (W : Facts P K mg T) : FnOk P w K mg base (L2.CX P w) 4 W.f_Rule_is_marking W.fd_Rule_is_marking ["self", "text", "marking"] (spD K (F_Rule_is_marking T)) := by
  refine W.U_Rule_is_marking.okX (k := 3) sc_Rule_is_marking (spD_len fun ss g e => runB_len e) (fun cdv A outer s H vs Q E hr h => ?_)
  have hu := hr.units
  exact ⟨_, (sd_cons (sd_expr (pd_meth W.cls_Rule W.me_Rule_check_text ((L2.FnOk.mono (ok_Rule_check_text W) (by decide)) ) hr W.b_Rule_check_text (takes_of rfl rfl rfl rfl) (pd_var 0 (pv 0)) (pl_cons (pd_var 1 (pv 1)) pl_nil)))
    (sd_cons (sd_if (pt_notD (pt_tst (pd_call (L2.FnOk.mono (ok_is_run W) (by decide)) hr (by rfl) W.g_is_run W.kp_is_run W.b_is_run (takes_of rfl rfl rfl rfl) (pl_cons (pd_var 0 (pv 0)) (pl_cons (pd_var 1 (pv 1)) (pl_cons (pd_var 2 (pv 2)) pl_nil)))))) (sd_one (sd_ret pd_bl)) sd_nil)
    (sd_one (sd_ret (pd_andV (pk_eq hu (pk_of (pd_and (pd_shr (pk_fld W.cls_Rule W.na_Rule_first_bits (pk_var 0 (pv 0))) (pk_ix (pk_var 2 (pv 2)) (pk_of pd_int) (fun _ _ => rfl))) pd_int)) (pk_of pd_int)) (pd_one (pk_eq hu (pk_of (pd_and (pd_shr (pk_fld W.cls_Rule W.na_Rule_last_bits (pk_var 0 (pv 0))) (pk_ix (pk_var 2 (pv 2)) (pk_of (pd_neg pd_int)) (fun _ _ => rfl))) pd_int)) (pk_of pd_int)))))))), body_end (N := N_Rule_is_marking) (X := cxOf (L2.CX P w) P w K mg base N_Rule_is_marking "Rule.is_marking" (defScope s_Rule_is_marking) W.f_Rule_is_marking cdv A outer s H E) h⟩
theorem ok_Rule___contains__ (W : Facts P K mg T) : FnOk P w K mg base (L2.CX P w) 6 W.f_Rule___contains__ W.fd_Rule___contains__ ["self", "text"] (spD K (F_Rule___contains__ T)) := by
  refine W.U_Rule___contains__.okX (k := 5) sc_Rule___contains__ (spD_len fun ss g e => runB_len e) (fun cdv A outer s H vs Q E hr h => ?_)
  have hu := hr.units
  exact ⟨_, (sd_one (sd_ret (pd_notN (pd_meth W.cls_Rule W.me_Rule_least_marking ((L2.FnOk.mono (ok_Rule_least_marking W) (by decide)) ) hr W.b_Rule_least_marking (takes_of rfl rfl rfl rfl) (pd_var 0 (pv 0)) (pl_cons (pd_var 1 (pv 1)) pl_nil)) pd_non))), body_end (N := N_Rule___contains__) (X := cxOf (L2.CX P w) P w K mg base N_Rule___contains__ "Rule.__contains__" (defScope s_Rule___contains__) W.f_Rule___contains__ cdv A outer s H E) h⟩
theorem gx_Rule_markings (W : Facts P K mg T) : GFn P w K mg base 4 W.f_Rule_markings W.fd_Rule_markings ["self", "text", "most"] (spX K (T 25) (F_Rule_markings_v2 T)) := by
  show GFn P w K mg base 4 W.f_Rule_markings W.fd_Rule_markings ["self", "text", "most"] (spX K (T 25) (runB N_Rule_markings.length (["self", "text", "most"] : List Str).length (h_Rule_markings_v2 T)))
  refine gfnX_ofD (k := 3) W.U_Rule_markings sc_Rule_markings rfl (fun cdv A outer s H E pn hr => ?_)
  have hu := hr.units
  exact (sd_expr (pd_meth W.cls_Rule W.me_Rule_check_text ((L2.FnOk.mono (ok_Rule_check_text W) (by decide)) ) hr W.b_Rule_check_text takes_gcx (pd_var 0 (pv 0)) (pl_cons (pd_var 1 (pv 1)) pl_nil)))
theorem dv_law (W : Facts P K mg T) (TB : LamX.TabB base mg W.lc (T 99)) {A : Around} {outer : List Env} {s : Shared} {H : Hp} {E : XK} {f : Addr} (hr : Room 9 (A.deeper (envOfC "law" (defScope s_law) s.heap.objs.size f (.ref W.lc)))) :
    PSs (cxOf (L2.CX P w) P w K mg base N_law "law" (defScope s_law) f (.ref W.lc) A outer s H E) ((defBody s_law).drop 1) (tS K (fun cls d _ H => E cls d H) (h_law_K07 T)) := by
  have hu := hr.units
  obtain ⟨cdt, hT⟩ := told_mk (x := "_law_told") (a := "_law_ask") W.U_law_told W.g_law_told W.b_law_told
  have z : ∃ t, PSs (cxOf (L2.CX P w) P w K mg base N_law "law" (defScope s_law) f (.ref W.lc) A outer s H E) ((defBody s_law).drop 1) t ∧ t = tS K (fun cls d _ H => E cls d H) (h_law_K07 T) := ⟨_, (sd_cons (sd_set (pd_call (L2.FnOk.mono (ok_law_plan W) (by decide)) hr (by rfl) W.g_law_plan W.kp_law_plan W.b_law_plan (takes_of rfl rfl rfl rfl) (pl_cons (pd_var 1 (pv 1)) (pl_cons pd_int (pl_cons pd_int pl_nil)))) (fun he => ps_set (i := 2) sc_law.nd rfl (.inl rfl) he))
    (sd_cons (sd_set (pd_call (L2.FnOk.mono (ok_law_made W) (by decide)) hr (by rfl) W.g_law_made W.kp_law_made W.b_law_made (takes_of rfl rfl rfl rfl) (pl_cons (pd_var 2 (pv 2)) pl_nil)) (fun he => ps_set (i := 3) sc_law.nd rfl (.inr rfl) he))
    (sd_cons (sd_for (passes_of rfl) (by rfl) (pi_rng1 (by rfl) W.m_range pd_int) (gd_name (pg_name (i := 4) sc_law.nd rfl (.inl rfl))) bndN_noex (sd_cons (sd_par (fun ha => ps_par (by rfl) sc_law.nd rfl rfl (by decide) rfl rfl ha (by rfl)) (pl_cons (pd_call (L2.FnOk.mono (ok_law_text W) (by decide)) hr (by rfl) W.g_law_text W.kp_law_text W.b_law_text (takes_of rfl rfl rfl rfl) (pl_cons (pd_var 1 (pv 1)) (pl_cons (pk_ix (pk_var 2 (pv 2)) (pk_of pd_int) (fun _ _ => rfl)) (pl_cons pd_int pl_nil)))) (pl_cons (pd_call (L2.FnOk.mono (ok_law_text W) (by decide)) hr (by rfl) W.g_law_text W.kp_law_text W.b_law_text (takes_of rfl rfl rfl rfl) (pl_cons (pd_var 1 (pv 1)) (pl_cons (pk_ix (pk_var 2 (pv 2)) (pk_of pd_int) (fun _ _ => rfl)) (pl_cons pd_int pl_nil)))) pl_nil)))
    (sd_cons (sd_set (pd_call (L2.FnOk.mono (ok_law_rel W) (by decide)) hr (by rfl) W.g_law_rel W.kp_law_rel W.b_law_rel (takes_of rfl rfl rfl rfl) (pl_cons (pd_var 2 (pv 2)) (pl_cons (pd_var 5 (pv 5)) pl_nil))) (fun he => ps_set (i := 7) sc_law.nd rfl (.inl rfl) he))
    (sd_cons (sd_if (PW.pt (wd_or (pt_notD (pt_tst (pd_call (L2.FnOk.mono (ok_law_like W) (by decide)) hr (by rfl) W.g_law_like W.kp_law_like W.b_law_like (takes_of rfl rfl rfl rfl) (pl_cons (pd_meth W.cls_Rule W.me_Rule_relation ((L2.FnOk.mono (ok_Rule_relation W) (by decide)) ) hr W.b_Rule_relation (takes_of rfl rfl rfl rfl) (pd_var 3 (pv 3)) (pl_cons (pd_var 5 (pv 5)) pl_nil)) (pl_cons (pd_var 7 (pv 7)) pl_nil))))) (wd_or1 (pkt_ne hu (pk_of (pd_methKw0 W.cls_Rule W.me_Rule_relation ((L2.FnOk.mono (ok_Rule_relation W) (by decide)) ) hr W.kb_Rule_relation_1_text (takes_of rfl rfl rfl rfl) (pd_var 3 (pv 3)) (pkd_cons (pd_var 5 (pv 5)) pkd_nil))) (pk_var 7 (pv 7)))))) (sd_one (sd_ret pd_bl)) sd_nil)
    (sd_cons (sd_if (pkt_ne hu (pk_of (pd_meth W.cls_Rule W.me_Rule_relation ((L2.FnOk.mono (ok_Rule_relation W) (by decide)) ) hr W.b_Rule_relation (takes_of rfl rfl rfl rfl) (pd_var 3 (pv 3)) (pl_cons (pd_add (pd_var 5 (pv 5)) (pd_var 6 (pv 6))) pl_nil))) (pk_of (pd_call (L2.FnOk.mono (ok_law_chain W) (by decide)) hr (by rfl) W.g_law_chain W.kp_law_chain W.b_law_chain (takes_of rfl rfl rfl rfl) (pl_cons (pd_var 7 (pv 7)) (pl_cons (pd_call (L2.FnOk.mono (ok_law_rel W) (by decide)) hr (by rfl) W.g_law_rel W.kp_law_rel W.b_law_rel (takes_of rfl rfl rfl rfl) (pl_cons (pd_var 2 (pv 2)) (pl_cons (pd_var 6 (pv 6)) pl_nil))) pl_nil))))) (sd_one (sd_ret pd_bl)) sd_nil)
    (sd_cons (sd_set (pd_call (L2.FnOk.mono (ok_law_pull W) (by decide)) hr (by rfl) W.g_law_pull W.kp_law_pull W.b_law_pull (takes_of rfl rfl rfl rfl) (pl_cons (pd_var 1 (pv 1)) (pl_cons (pd_add (pd_b1 c1_len (call_len_seq.or call_len_str) boot_len (by rfl) W.m_len (pk_var 5 (pv 5))) pd_int) pl_nil))) (fun he => ps_set (i := 8) sc_law.nd rfl (.inl rfl) he))
    (sd_cons (sd_set (pd_add (pd_add (pd_add (pk_slice (pk_var 5 (pv 5)) po_noneD (po_someD (pd_var 8 (pv 8)))) (pd_call (L2.FnOk.mono (ok_law_pick W) (by decide)) hr (by rfl) W.g_law_pick W.kp_law_pick W.b_law_pick (takes_of rfl rfl rfl rfl) (pl_cons (pd_var 1 (pv 1)) (pl_cons (pd_new (pn_lst (pl_cons pd_str (pl_cons pd_str (pl_cons pd_str (pl_cons pd_str (pl_cons pd_str pl_nil))))))) pl_nil)))) (pk_slice (pk_var 5 (pv 5)) (po_someD (pd_var 8 (pv 8))) po_noneD)) (pd_call (L2.FnOk.mono (ok_law_pick W) (by decide)) hr (by rfl) W.g_law_pick W.kp_law_pick W.b_law_pick (takes_of rfl rfl rfl rfl) (pl_cons (pd_var 1 (pv 1)) (pl_cons (pd_new (pn_lst (pl_cons pd_str (pl_cons pd_str pl_nil)))) pl_nil)))) (fun he => ps_set (i := 9) sc_law.nd rfl (.inr rfl) he))
    (sd_cons (sd_set (pd_tup (pl_cons pd_str (pl_cons pd_str (pl_cons (pd_var 8 (pv 8)) pl_nil)))) (fun he => ps_set (i := 7) sc_law.nd rfl (.inl rfl) he))
    (sd_cons (sd_set (pd_cell (pn_lst (pl_cons (pd_told hT (by rfl) sc_law_told rfl (.inl rfl) (told_gives3 rfl (by decide) (.inl rfl) rfl ⟨rfl, rfl, W.g_NearError⟩ ⟨rfl, rfl, W.g_UnknownName⟩ ⟨rfl, rfl, W.g_NothingLeft⟩ W.xf_code (ok_law_field W) ((roomH_of hr).mono (by decide)) ⟨rfl, rfl, W.g_law_field⟩ W.kp_law_field W.b_law_field rfl rfl) (exmAll_ok W.exm) TB rfl hr (LamX.lamS_by (by show LamX.lamSB (defScope s_law) _ = true; decide +kernel)) rfl (fun _ _ _ _ _ => rfl) (fun _ _ _ _ _ _ _ hr => (pd_meth W.cls_Rule W.me_Rule_relation ((L2.FnOk.mono (ok_Rule_relation W) (by decide)) ) hr W.b_Rule_relation (takes_of rfl rfl rfl rfl) (pd_var 3 (pv 3)) (pl_cons (pd_var 9 (pv 9)) pl_nil)))) (pl_cons (pd_toldD (xd := "_law_one") (v0 := .int 0) hT (by rfl) sc_law_told rfl (.inl rfl) (told_gives3 rfl (by decide) (.inl rfl) rfl ⟨rfl, rfl, W.g_NearError⟩ ⟨rfl, rfl, W.g_UnknownName⟩ ⟨rfl, rfl, W.g_NothingLeft⟩ W.xf_code (ok_law_field W) ((roomH_of hr).mono (by decide)) ⟨rfl, rfl, W.g_law_field⟩ W.kp_law_field W.b_law_field rfl rfl) (exmAll_ok W.exm) TB rfl hr (lamSD_by (by show lamSDB (defScope s_law) _ N_law "_law_one" = true; decide +kernel)) rfl rfl pe_int (fun _ _ _ _ _ _ _ _ => ⟨_, rfl, rfl⟩) (fun _ _ _ _ _ _ _ hr => (pd_meth W.cls_Rule W.me_Rule_run ((L2.FnOk.mono (ok_Rule_run W) (by decide)) ) hr W.b_Rule_run (takes_of rfl rfl rfl rfl) (pd_var 3 (pv 3)) (pl_cons (pd_var 9 (pv 9)) (pl_cons (pd_new (pn_lst (pl_cons pd_int pl_nil))) (pl_cons (pd_new (pn_lst (pl_cons pd_int pl_nil))) pl_nil)))))) pl_nil)))) (fun he => ps_set (i := 10) sc_law.nd rfl (.inl rfl) he))
    (sd_cons (sd_expr (pm_append (pf_var 10 (pv 10)) (pd_told hT (by rfl) sc_law_told rfl (.inl rfl) (told_gives3 rfl (by decide) (.inl rfl) rfl ⟨rfl, rfl, W.g_NearError⟩ ⟨rfl, rfl, W.g_UnknownName⟩ ⟨rfl, rfl, W.g_NothingLeft⟩ W.xf_code (ok_law_field W) ((roomH_of hr).mono (by decide)) ⟨rfl, rfl, W.g_law_field⟩ W.kp_law_field W.b_law_field rfl rfl) (exmAll_ok W.exm) TB rfl hr (LamX.lamS_by (by show LamX.lamSB (defScope s_law) _ = true; decide +kernel)) rfl (fun _ _ _ _ _ => rfl) (fun _ _ _ _ _ _ _ hr => (pd_meth W.cls_Rule W.me_Rule_least_marking ((L2.FnOk.mono (ok_Rule_least_marking W) (by decide)) ) hr W.b_Rule_least_marking (takes_of rfl rfl rfl rfl) (pd_var 3 (pv 3)) (pl_cons (pd_var 9 (pv 9)) pl_nil))))))
    (sd_cons (sd_expr (pm_append (pf_var 10 (pv 10)) (pd_told hT (by rfl) sc_law_told rfl (.inl rfl) (told_gives3 rfl (by decide) (.inl rfl) rfl ⟨rfl, rfl, W.g_NearError⟩ ⟨rfl, rfl, W.g_UnknownName⟩ ⟨rfl, rfl, W.g_NothingLeft⟩ W.xf_code (ok_law_field W) ((roomH_of hr).mono (by decide)) ⟨rfl, rfl, W.g_law_field⟩ W.kp_law_field W.b_law_field rfl rfl) (exmAll_ok W.exm) TB rfl hr (LamX.lamS_by (by show LamX.lamSB (defScope s_law) _ = true; decide +kernel)) rfl (fun _ _ _ _ _ => rfl) (fun _ _ _ _ _ _ _ hr => (pd_callO W.co_Rule ((L2.FnOk.mono (ok_Rule___call__ W) (by decide)) ) hr W.b_Rule___call__ (takes_of rfl rfl rfl rfl) (pd_var 3 (pv 3)) (pl_cons (pd_var 9 (pv 9)) pl_nil))))))
    (sd_cons (sd_expr (pm_append (pf_var 10 (pv 10)) (pd_told hT (by rfl) sc_law_told rfl (.inl rfl) (told_gives3 rfl (by decide) (.inl rfl) rfl ⟨rfl, rfl, W.g_NearError⟩ ⟨rfl, rfl, W.g_UnknownName⟩ ⟨rfl, rfl, W.g_NothingLeft⟩ W.xf_code (ok_law_field W) ((roomH_of hr).mono (by decide)) ⟨rfl, rfl, W.g_law_field⟩ W.kp_law_field W.b_law_field rfl rfl) (exmAll_ok W.exm) TB rfl hr (LamX.lamS_by (by show LamX.lamSB (defScope s_law) _ = true; decide +kernel)) rfl (fun _ _ _ _ _ => rfl) (fun _ _ _ _ _ _ _ hr => (pd_meth W.cls_Rule W.me_Rule_how_many ((L2.FnOk.mono (ok_Rule_how_many W) (by decide)) ) hr W.b_Rule_how_many (takes_of rfl rfl rfl rfl) (pd_var 3 (pv 3)) (pl_cons (pd_var 9 (pv 9)) pl_nil))))))
    (sd_cons (sd_expr (pm_append (pf_var 10 (pv 10)) (pd_told hT (by rfl) sc_law_told rfl (.inl rfl) (told_gives3 rfl (by decide) (.inl rfl) rfl ⟨rfl, rfl, W.g_NearError⟩ ⟨rfl, rfl, W.g_UnknownName⟩ ⟨rfl, rfl, W.g_NothingLeft⟩ W.xf_code (ok_law_field W) ((roomH_of hr).mono (by decide)) ⟨rfl, rfl, W.g_law_field⟩ W.kp_law_field W.b_law_field rfl rfl) (exmAll_ok W.exm) TB rfl hr (LamX.lamS_by (by show LamX.lamSB (defScope s_law) _ = true; decide +kernel)) rfl (fun _ _ _ _ _ => rfl) (fun _ _ _ _ _ _ _ hr => (pd_meth W.cls_Rule W.me_Rule_is_marking ((L2.FnOk.mono (ok_Rule_is_marking W) (by decide)) ) hr W.b_Rule_is_marking (takes_of rfl rfl rfl rfl) (pd_var 3 (pv 3)) (pl_cons (pd_var 9 (pv 9)) (pl_cons (pd_tup (pl_cons pd_int pl_nil)) pl_nil)))))))
    (sd_cons (sd_expr (pm_append (pf_var 10 (pv 10)) (pd_told hT (by rfl) sc_law_told rfl (.inl rfl) (told_gives3 rfl (by decide) (.inl rfl) rfl ⟨rfl, rfl, W.g_NearError⟩ ⟨rfl, rfl, W.g_UnknownName⟩ ⟨rfl, rfl, W.g_NothingLeft⟩ W.xf_code (ok_law_field W) ((roomH_of hr).mono (by decide)) ⟨rfl, rfl, W.g_law_field⟩ W.kp_law_field W.b_law_field rfl rfl) (exmAll_ok W.exm) TB rfl hr (LamX.lamS_by (by show LamX.lamSB (defScope s_law) _ = true; decide +kernel)) rfl (fun _ _ _ _ _ => rfl) (fun _ _ _ _ _ _ _ hr => (pd_inOX W.ct_Rule W.ctf_Rule ((L2.FnOk.mono (ok_Rule___contains__ W) (by decide)) ) hr W.b_Rule___contains__ (takes_of rfl rfl rfl rfl) (pd_var 9 (pv 9)) (pd_var 3 (pv 3)))))))
    (sd_cons (sd_expr (pm_append (pf_var 10 (pv 10)) (pd_told hT (by rfl) sc_law_told rfl (.inl rfl) (told_gives3 rfl (by decide) (.inl rfl) rfl ⟨rfl, rfl, W.g_NearError⟩ ⟨rfl, rfl, W.g_UnknownName⟩ ⟨rfl, rfl, W.g_NothingLeft⟩ W.xf_code (ok_law_field W) ((roomH_of hr).mono (by decide)) ⟨rfl, rfl, W.g_law_field⟩ W.kp_law_field W.b_law_field rfl rfl) (exmAll_ok W.exm) TB rfl hr (LamX.lamS_by (by show LamX.lamSB (defScope s_law) _ = true; decide +kernel)) rfl (fun _ _ _ _ _ => rfl) (fun _ _ _ _ _ _ _ hr => (pd_listGX (dd := [dN 100]) W.nst_InvalidText W.cls_Rule W.me_Rule_markings (gx_Rule_markings W) (hr.mono (by decide)) (hr.mono (by decide)) W.bd_Rule_markings_1 (fun B => (Reps.cons (by simp only [Rep]) Reps.nil)) (takes_of rfl rfl rfl rfl) (by rfl) W.m_list (by decide +kernel) (pd_var 3 (pv 3)) (pl_cons (pd_var 9 (pv 9)) pl_nil))))))
    (sd_one (sd_if (pkt_ne hu (pk_var 10 (pv 10)) (pk_of (pd_new (pn_rep (pd_new (pn_lst (pl_cons (pd_var 7 (pv 7)) pl_nil))) pd_int)))) (sd_one (sd_ret pd_bl)) sd_nil)))))))))))))))))
    (sd_one (sd_ret (pk_eq hu (pk_of (pd_meth W.cls_Rule W.me_Rule_relation ((L2.FnOk.mono (ok_Rule_relation W) (by decide)) ) hr W.b_Rule_relation (takes_of rfl rfl rfl rfl) (pd_var 3 (pv 3)) (pl_cons pd_str pl_nil))) (pk_of (pd_call (L2.FnOk.mono (ok_law_same_rel W) (by decide)) hr (by rfl) W.g_law_same_rel W.kp_law_same_rel W.b_law_same_rel (takes_of rfl rfl rfl rfl) (pl_cons (pk_ix (pk_var 2 (pv 2)) (pk_of pd_int) (fun _ _ => rfl)) pl_nil))))))))), rfl⟩
  obtain ⟨t, z1, rfl⟩ := z
  exact z1
end
section
variable {P : Program} {w : World} {K : PySem.W.Frag} {mg : Str → Option Value} {T : Nat → Addr} {base : Heap}
theorem ok_open (W : Facts P K mg T) : FnOk P w K mg base (L2.CX P w) 1 W.f_law_open W.fd_law_open ["_law_script"] (spOpenT K) := by
  refine W.U_law_open.okX (k := 0) sc_law_open (fun vs H Q E h => ?_) (fun cdv A outer s H vs Q E hr h => ?_)
  · obtain ⟨a, ns, rfl, _⟩ := h
    rfl
  · obtain ⟨a, ns, rfl, hS, hl, q⟩ := h
    refine ⟨_, pss_cons (ps_setLc (i := 1) (by rfl) sc_law_open.nd rfl rfl (sw_true rfl rfl rfl (by decide +kernel)) (pi_list (pe_slice sl_list (pv 0) po_none (po_some pe_int))) (blkOk_by (own := [("_law_cell", 3)]) (N := N_law_open) (sc := defScope s_law_open) (by decide +kernel))
      (fun _ _ _ _ _ => pg_name (i := 3) sc_law_open.nd rfl (.inl rfl)) (fun _ _ _ _ _ => pts_nil) (fun _ _ _ _ _ => pe_callTy call_int1 (by rfl) W.m_int PyProof.Rows.boot_int (pa_cons (pv 3) pa_nil))) (dv_law_open W hr), ?_⟩
    refine ⟨.ref a, rfl, 63, rfl, a, ns.map V.int, rfl, hS, fun c nc => ?_⟩
    rw [cut63 hl]
    refine ⟨c, rfl, ⟨ns.map V.int, .inl (.inl upd_same)⟩, fun L hL => ?_⟩
    have ncL : c ≠ L := fun e => by
      rw [← e, upd_same] at hL
      cases hL
    refine lc_list (a := c) (xs := ns.map V.int) (fun i H' => H' L = some (.lst ((ns.take i).map V.int)) ∧ H' c = some (.lst (ns.map V.int)) ∧ ∀ b o, H b = some o → H' b = some o) ⟨upd_same, by rw [upd_ne ncL, upd_same], fun b o hb => ?_⟩ (fun i H' _ h => .inl (.inl h.2.1)) (fun i x H' hx h => ?_) (fun H' h => ?_)
    · have nbc : b ≠ c := fun e => by
        rw [e, nc] at hb
        cases hb
      have nbL : b ≠ L := fun e => by
        rw [upd_ne (Ne.symm ncL), ← e, hb] at hL
        cases hL
      rw [upd_ne nbL, upd_ne nbc]
      exact hb
    · rw [List.getElem?_map] at hx
      obtain ⟨m, hm, e⟩ := Option.map_eq_some_iff.mp hx
      subst e
      refine ⟨rfl, ?_⟩
      refine @iteT _ (H' L = some (.lst ((ns.take (i + 1)).map V.int)) ∧ H' c = some (.lst (ns.map V.int)) ∧ ∀ b o, H b = some o → H' b = some o) ?_
      refine ⟨_, rfl, .inl ⟨m, rfl, (ns.take i).map V.int, h.1, ?_, ?_, ?_, ?_⟩⟩
      · have hi := (List.getElem?_eq_some_iff.mp hm).1
        rw [List.length_map, List.length_take, sizeLine_eq]
        omega
      · rw [upd_same, List.take_add_one, hm, List.map_append]
        rfl
      · rw [upd_ne ncL]
        exact h.2.1
      · intro b o hb
        have nbL : b ≠ L := fun e => by
          rw [upd_ne (Ne.symm ncL), ← e, hb] at hL
          cases hL
        rw [upd_ne nbL]
        exact h.2.2 b o hb
    · rw [List.length_map, List.take_length] at h
      exact open_endT hl h.1 (fun H2 p c2 s2 a1 a2 k => q H2 p c2 s2 a1 a2 fun b o hb => k b o (h.2.2 b o hb)) _
end
theorem ok_law {P : Program} {w : World} {K : PySem.W.Frag} {mg : Str → Option Value} {T : Nat → Addr} {base : Heap} (W : Facts P K mg T) (TB : LamX.TabB base mg W.lc (T 99)) (run : ∀ T : Nat → Addr, LawOkT (h_law_K07 T) 9 (T 99) lamQ) : FnOk P w K mg base (L2.CX P w) 10 W.f_law W.fd_law ["_law_script"] (spLawT K (T 99)) := by
  refine okX2 (k := 9) W.U_law sc_law (fun vs H Q E h => ?_) (fun cdv A outer s H vs Q E hcd hr h => ?_)
  · obtain ⟨a, ns, rfl, _⟩ := h
    rfl
  · obtain rfl : cdv = .ref W.lc := hcd.symm.trans W.hlc
    obtain ⟨a, ns, rfl, hS, hl, hPT, q⟩ := h
    refine ⟨_, pss_cons (ps_set (i := 1) sc_law.nd rfl (.inl rfl) (pe_call ((ok_open W).mono (by decide)) hr (by rfl) W.g_law_open W.kp_law_open W.b_law_open .nil passL (pa_cons (pv 0) pa_nil))) (dv_law W TB hr), ?_⟩
    refine ⟨.ref a, rfl, a, ns, rfl, hS, hl, fun H1 p c sv hp hc hk => ?_⟩
    exact law_endT (a := a) (run T) hp hc (hk _ _ hPT) q
namespace HL
def dfs : List Hd.Df := [
  ⟨fun K => He.ga K "_law_open", "_law_open", "_law_open", s_law_open, [], []⟩,
  ⟨fun K => He.ga K "_law_pull", "_law_pull", "_law_pull", s_law_pull, [], []⟩,
  ⟨fun K => He.ga K "_law_pick", "_law_pick", "_law_pick", s_law_pick, [], []⟩,
  ⟨fun K => He.ga K "_law_letters", "_law_letters", "_law_letters", s_law_letters, [], []⟩,
  ⟨fun K => He.ga K "_law_some", "_law_some", "_law_some", s_law_some, [], []⟩,
  ⟨fun K => He.ga K "_law_plan", "_law_plan", "_law_plan", s_law_plan, [], []⟩,
  ⟨fun K => He.ga K "is_letters", "is_letters", "is_letters", s_is_letters, [], []⟩,
  ⟨fun K => He.ga K "is_number", "is_number", "is_number", s_is_number, [], []⟩,
  ⟨fun K => He.ga K "is_step", "is_step", "is_step", s_is_step, [], []⟩,
  ⟨fun K => He.ga K "relation_of", "relation_of", "relation_of", s_relation_of, [], []⟩,
  ⟨fun K => He.ma K (He.ga K "Rule") "__init__", "__init__", "Rule.__init__", s_Rule___init__, [], []⟩,
  ⟨fun K => He.ga K "_law_made", "_law_made", "_law_made", s_law_made, [], []⟩,
  ⟨fun K => He.ga K "_law_text", "_law_text", "_law_text", s_law_text, [], []⟩,
  ⟨fun K => He.ga K "_law_same_rel", "_law_same_rel", "_law_same_rel", s_law_same_rel, [], []⟩,
  ⟨fun K => He.ga K "_law_image", "_law_image", "_law_image", s_law_image, [], []⟩,
  ⟨fun K => He.ga K "_law_chain", "_law_chain", "_law_chain", s_law_chain, [], []⟩,
  ⟨fun K => He.ga K "_law_letter_rel", "_law_letter_rel", "_law_letter_rel", s_law_letter_rel, [], []⟩,
  ⟨fun K => He.ga K "_law_rel", "_law_rel", "_law_rel", s_law_rel, [], []⟩,
  ⟨fun K => He.ga K "_law_like", "_law_like", "_law_like", s_law_like, [], []⟩,
  ⟨fun K => He.ma K (He.ga K "Rule") "check_text", "check_text", "Rule.check_text", s_Rule_check_text, [], []⟩,
  ⟨fun K => He.ga K "identity", "identity", "identity", s_identity, [], []⟩,
  ⟨fun K => He.ga K "bits_of", "bits_of", "bits_of", s_bits_of, [], []⟩,
  ⟨fun K => He.ga K "image", "image", "image", s_image, [], []⟩,
  ⟨fun K => He.ga K "joined", "joined", "joined", s_joined, [], []⟩,
  ⟨fun K => He.ma K (He.ga K "Rule") "relation", "relation", "Rule.relation", s_Rule_relation, [], []⟩,
  ⟨fun K => He.ma K (He.ga K "Rule") "ahead", "ahead", "Rule.ahead", s_Rule_ahead, [], []⟩,
  ⟨fun K => He.ma K (He.ga K "Rule") "run", "run", "Rule.run", s_Rule_run, [], []⟩,
  ⟨fun K => He.ma K (He.ga K "Rule") "first", "first", "Rule.first", s_Rule_first, [], []⟩,
  ⟨fun K => He.ma K (He.ga K "Rule") "last", "last", "Rule.last", s_Rule_last, [], []⟩,
  ⟨fun K => He.ma K (He.ga K "Rule") "least_marking", "least_marking", "Rule.least_marking", s_Rule_least_marking, [], []⟩,
  ⟨fun K => He.ma K (He.ga K "Rule") "__call__", "__call__", "Rule.__call__", s_Rule___call__, [], []⟩,
  ⟨fun K => He.ga K "is_related", "is_related", "is_related", s_is_related, [], []⟩,
  ⟨fun K => He.ma K (He.ga K "Rule") "how_many", "how_many", "Rule.how_many", s_Rule_how_many, [], []⟩,
  ⟨fun K => Hd.rcF K (He.ma K (He.ga K "Rule") "states") "property", "states", "Rule.states", s_Rule_states, [], []⟩,
  ⟨fun K => He.ga K "is_run", "is_run", "is_run", s_is_run, [], []⟩,
  ⟨fun K => He.ma K (He.ga K "Rule") "is_marking", "is_marking", "Rule.is_marking", s_Rule_is_marking, [], []⟩,
  ⟨fun K => He.ma K (He.ga K "Rule") "__contains__", "__contains__", "Rule.__contains__", s_Rule___contains__, [], []⟩,
  ⟨fun K => He.ma K (He.ga K "Rule") "markings", "markings", "Rule.markings", s_Rule_markings, [], [("most", .int ((100 : Nat) : Int))]⟩,
  ⟨fun K => He.ga K "law", "law", "law", s_law, [], []⟩,
  ⟨fun K => He.ga K "_law_told", "_law_told", "_law_told", s_law_told, [], []⟩,
  ⟨fun K => He.ga K "_law_field", "_law_field", "_law_field", s_law_field, [], []⟩]
def ers : List Hd.Er := [⟨"InvalidCount", s_InvalidCount, "InvalidCount.__init__", "ValueError", "ValueError.__new__", "ValueError.__init__", []⟩,
  ⟨"InvalidLetters", s_InvalidLetters, "InvalidLetters.__init__", "ValueError", "ValueError.__new__", "ValueError.__init__", []⟩,
  ⟨"InvalidState", s_InvalidState, "InvalidState.__init__", "ValueError", "ValueError.__new__", "ValueError.__init__", []⟩,
  ⟨"InvalidStep", s_InvalidStep, "InvalidStep.__init__", "ValueError", "ValueError.__new__", "ValueError.__init__", []⟩,
  ⟨"InvalidText", s_InvalidText, "InvalidText.__init__", "ValueError", "ValueError.__new__", "ValueError.__init__", []⟩]
def tst (K : Hd.Fr) : List Bool := [
  He.eqO (PySem.W.nsIn K mainGlobals "all") (some none),
  He.eqO (PySem.W.nsIn K mainGlobals "bool") (some none),
  He.eqO (PySem.W.nsIn K mainGlobals "enumerate") (some none),
  He.eqO (PySem.W.nsIn K mainGlobals "int") (some none),
  He.eqO (PySem.W.nsIn K mainGlobals "isinstance") (some none),
  He.eqO (PySem.W.nsIn K mainGlobals "len") (some none),
  He.eqO (PySem.W.nsIn K mainGlobals "list") (some none),
  He.eqO (PySem.W.nsIn K mainGlobals "range") (some none),
  He.eqO (PySem.W.nsIn K mainGlobals "sorted") (some none),
  He.eqO (PySem.W.nsIn K mainGlobals "str") (some none),
  He.eqO (PySem.W.nsIn K mainGlobals "sum") (some none),
  He.eqO (PySem.W.nsIn K mainGlobals "tuple") (some none),
  He.eqO (PySem.W.nsIn K mainGlobals "zip") (some none),
  He.eqO (PySem.W.nsIn K mainGlobals "_law_open") (some (some (.ref (He.ga K "_law_open")))),
  He.eqO (PySem.W.nsIn K mainGlobals "_law_pull") (some (some (.ref (He.ga K "_law_pull")))),
  He.eqO (PySem.W.nsIn K mainGlobals "_law_pick") (some (some (.ref (He.ga K "_law_pick")))),
  He.eqO (PySem.W.nsIn K mainGlobals "_law_letters") (some (some (.ref (He.ga K "_law_letters")))),
  He.eqO (PySem.W.nsIn K mainGlobals "_law_some") (some (some (.ref (He.ga K "_law_some")))),
  He.eqO (PySem.W.nsIn K mainGlobals "_law_plan") (some (some (.ref (He.ga K "_law_plan")))),
  He.eqO (PySem.W.nsIn K mainGlobals "is_letters") (some (some (.ref (He.ga K "is_letters")))),
  He.eqO (PySem.W.nsIn K mainGlobals "is_number") (some (some (.ref (He.ga K "is_number")))),
  He.eqO (PySem.W.nsIn K mainGlobals "is_step") (some (some (.ref (He.ga K "is_step")))),
  He.eqO (PySem.W.nsIn K mainGlobals "relation_of") (some (some (.ref (He.ga K "relation_of")))),
  PySem.W.isFn K (.ref (He.ma K (He.ga K "Rule") "__init__")),
  PySem.W.makesIn K (He.ga K "Rule"),
  He.eqO (PySem.W.findIn K (.ref (He.ga K "Rule")) "__init__") (some (some (.ref (He.ma K (He.ga K "Rule") "__init__")))),
  PySem.W.keepIn K (.ref (He.ga K "Rule")),
  He.eqO (PySem.W.nsIn K mainGlobals "_law_made") (some (some (.ref (He.ga K "_law_made")))),
  He.eqO (PySem.W.nsIn K mainGlobals "_law_text") (some (some (.ref (He.ga K "_law_text")))),
  He.eqO (PySem.W.nsIn K mainGlobals "_law_same_rel") (some (some (.ref (He.ga K "_law_same_rel")))),
  He.eqO (PySem.W.nsIn K mainGlobals "_law_image") (some (some (.ref (He.ga K "_law_image")))),
  He.eqO (PySem.W.nsIn K mainGlobals "_law_chain") (some (some (.ref (He.ga K "_law_chain")))),
  He.eqO (PySem.W.nsIn K mainGlobals "_law_letter_rel") (some (some (.ref (He.ga K "_law_letter_rel")))),
  He.eqO (PySem.W.nsIn K mainGlobals "_law_rel") (some (some (.ref (He.ga K "_law_rel")))),
  He.eqO (PySem.W.nsIn K mainGlobals "_law_like") (some (some (.ref (He.ga K "_law_like")))),
  PySem.W.isFn K (.ref (He.ma K (He.ga K "Rule") "check_text")),
  He.eqO (PySem.W.findIn K (.ref (He.ga K "Rule")) "check_text") (some (some (.ref (He.ma K (He.ga K "Rule") "check_text")))),
  PySem.W.keepIn K (.ref (He.ma K (He.ga K "Rule") "check_text")),
  He.eqO (PySem.W.nsIn K mainGlobals "identity") (some (some (.ref (He.ga K "identity")))),
  He.eqO (PySem.W.nsIn K mainGlobals "bits_of") (some (some (.ref (He.ga K "bits_of")))),
  He.eqO (PySem.W.nsIn K mainGlobals "image") (some (some (.ref (He.ga K "image")))),
  He.eqO (PySem.W.nsIn K mainGlobals "joined") (some (some (.ref (He.ga K "joined")))),
  PySem.W.isFn K (.ref (He.ma K (He.ga K "Rule") "relation")),
  He.eqO (PySem.W.findIn K (.ref (He.ga K "Rule")) "relation") (some (some (.ref (He.ma K (He.ga K "Rule") "relation")))),
  PySem.W.keepIn K (.ref (He.ma K (He.ga K "Rule") "relation")),
  PySem.W.isFn K (.ref (He.ma K (He.ga K "Rule") "ahead")),
  He.eqO (PySem.W.findIn K (.ref (He.ga K "Rule")) "ahead") (some (some (.ref (He.ma K (He.ga K "Rule") "ahead")))),
  PySem.W.keepIn K (.ref (He.ma K (He.ga K "Rule") "ahead")),
  PySem.W.isFn K (.ref (He.ma K (He.ga K "Rule") "run")),
  He.eqO (PySem.W.findIn K (.ref (He.ga K "Rule")) "run") (some (some (.ref (He.ma K (He.ga K "Rule") "run")))),
  PySem.W.keepIn K (.ref (He.ma K (He.ga K "Rule") "run")),
  PySem.W.isFn K (.ref (He.ma K (He.ga K "Rule") "first")),
  He.eqO (PySem.W.findIn K (.ref (He.ga K "Rule")) "first") (some (some (.ref (He.ma K (He.ga K "Rule") "first")))),
  PySem.W.keepIn K (.ref (He.ma K (He.ga K "Rule") "first")),
  PySem.W.isFn K (.ref (He.ma K (He.ga K "Rule") "last")),
  He.eqO (PySem.W.findIn K (.ref (He.ga K "Rule")) "last") (some (some (.ref (He.ma K (He.ga K "Rule") "last")))),
  PySem.W.keepIn K (.ref (He.ma K (He.ga K "Rule") "last")),
  PySem.W.isFn K (.ref (He.ma K (He.ga K "Rule") "least_marking")),
  He.eqO (PySem.W.findIn K (.ref (He.ga K "Rule")) "least_marking") (some (some (.ref (He.ma K (He.ga K "Rule") "least_marking")))),
  PySem.W.keepIn K (.ref (He.ma K (He.ga K "Rule") "least_marking")),
  PySem.W.isFn K (.ref (He.ma K (He.ga K "Rule") "__call__")),
  He.eqO (PySem.W.findIn K (.ref (He.ga K "Rule")) "__call__") (some (some (.ref (He.ma K (He.ga K "Rule") "__call__")))),
  PySem.W.fnIn K (He.ma K (He.ga K "Rule") "__call__"),
  He.eqO (PySem.W.nsIn K mainGlobals "is_related") (some (some (.ref (He.ga K "is_related")))),
  PySem.W.isFn K (.ref (He.ma K (He.ga K "Rule") "how_many")),
  He.eqO (PySem.W.findIn K (.ref (He.ga K "Rule")) "how_many") (some (some (.ref (He.ma K (He.ga K "Rule") "how_many")))),
  PySem.W.keepIn K (.ref (He.ma K (He.ga K "Rule") "how_many")),
  PySem.W.isFn K (.ref (Hd.rcF K (He.ma K (He.ga K "Rule") "states") "property")),
  He.eqO (PySem.W.findIn K (.ref (He.ga K "Rule")) "states") (some (some (.ref (He.ma K (He.ga K "Rule") "states")))),
  He.eqO (PySem.W.specialIn K (.ref (He.ma K (He.ga K "Rule") "states")) "__get__") (some (some (.builtin "property.__get__"))),
  decide (PySem.W.takesIn K (.ref (He.ma K (He.ga K "Rule") "states")) = some true),
  Hd.rcB K (He.ma K (He.ga K "Rule") "states") "property",
  He.eqO (PySem.W.nsIn K mainGlobals "is_run") (some (some (.ref (He.ga K "is_run")))),
  PySem.W.isFn K (.ref (He.ma K (He.ga K "Rule") "is_marking")),
  He.eqO (PySem.W.findIn K (.ref (He.ga K "Rule")) "is_marking") (some (some (.ref (He.ma K (He.ga K "Rule") "is_marking")))),
  PySem.W.keepIn K (.ref (He.ma K (He.ga K "Rule") "is_marking")),
  PySem.W.isFn K (.ref (He.ma K (He.ga K "Rule") "__contains__")),
  He.eqO (PySem.W.findIn K (.ref (He.ga K "Rule")) "__contains__") (some (some (.ref (He.ma K (He.ga K "Rule") "__contains__")))),
  PySem.W.isFn K (.ref (He.ma K (He.ga K "Rule") "markings")),
  He.eqO (PySem.W.findIn K (.ref (He.ga K "Rule")) "markings") (some (some (.ref (He.ma K (He.ga K "Rule") "markings")))),
  PySem.W.keepIn K (.ref (He.ma K (He.ga K "Rule") "markings")),
  He.eqO (PySem.W.nsIn K mainGlobals "law") (some (some (.ref (He.ga K "law")))),
  He.eqO (PySem.W.nsIn K mainGlobals "_law_told") (some (some (.ref (He.ga K "_law_told")))),
  He.eqO (PySem.W.nsIn K mainGlobals "_law_field") (some (some (.ref (He.ga K "_law_field")))),
  Hd.erB (⟨"InvalidCount", s_InvalidCount, "InvalidCount.__init__", "ValueError", "ValueError.__new__", "ValueError.__init__", []⟩) PySem.Challenge.rw_nearclerk_k07_relations_of_texts.prog.main.file PySem.HandSPX.refsVE K,
  He.eqO (PySem.W.nsIn K mainGlobals "super") (some none),
  He.eqO (PySem.W.findIn K (.ref (He.ga K "InvalidCount")) "given") (some none),
  He.eqO (PySem.W.findIn K (.ref (He.ga K "InvalidCount")) "code") (some none),
  Hd.erB (⟨"InvalidLetters", s_InvalidLetters, "InvalidLetters.__init__", "ValueError", "ValueError.__new__", "ValueError.__init__", []⟩) PySem.Challenge.rw_nearclerk_k07_relations_of_texts.prog.main.file PySem.HandSPX.refsVE K,
  He.eqO (PySem.W.findIn K (.ref (He.ga K "InvalidLetters")) "given") (some none),
  He.eqO (PySem.W.findIn K (.ref (He.ga K "InvalidLetters")) "code") (some none),
  Hd.erB (⟨"InvalidState", s_InvalidState, "InvalidState.__init__", "ValueError", "ValueError.__new__", "ValueError.__init__", []⟩) PySem.Challenge.rw_nearclerk_k07_relations_of_texts.prog.main.file PySem.HandSPX.refsVE K,
  He.eqO (PySem.W.findIn K (.ref (He.ga K "InvalidState")) "given") (some none),
  He.eqO (PySem.W.findIn K (.ref (He.ga K "InvalidState")) "code") (some none),
  Hd.erB (⟨"InvalidStep", s_InvalidStep, "InvalidStep.__init__", "ValueError", "ValueError.__new__", "ValueError.__init__", []⟩) PySem.Challenge.rw_nearclerk_k07_relations_of_texts.prog.main.file PySem.HandSPX.refsVE K,
  He.eqO (PySem.W.findIn K (.ref (He.ga K "InvalidStep")) "at") (some none),
  He.eqO (PySem.W.findIn K (.ref (He.ga K "InvalidStep")) "code") (some none),
  Hd.erB (⟨"InvalidText", s_InvalidText, "InvalidText.__init__", "ValueError", "ValueError.__new__", "ValueError.__init__", []⟩) PySem.Challenge.rw_nearclerk_k07_relations_of_texts.prog.main.file PySem.HandSPX.refsVE K,
  He.eqO (PySem.W.findIn K (.ref (He.ga K "InvalidText")) "at") (some none),
  He.eqO (PySem.W.findIn K (.ref (He.ga K "InvalidText")) "code") (some none),
  He.eqO (PySem.W.nsIn K mainGlobals "TooLarge") (some (some (.ref (He.ga K "TooLarge")))),
  He.eqO (PySem.W.nsIn K mainGlobals "Unlike") (some (some (.ref (He.ga K "Unlike")))),
  He.eqO (PySem.W.nsIn K mainGlobals "UnknownName") (some (some (.ref (He.ga K "UnknownName")))),
  He.eqO (PySem.W.nsIn K mainGlobals "NothingLeft") (some (some (.ref (He.ga K "NothingLeft")))),
  He.eqO (PySem.W.nsIn K mainGlobals "NearError") (some (some (.ref (He.ga K "NearError")))),
  excAllB K [(He.ga K "InvalidLetters"), (He.ga K "InvalidCount"), (He.ga K "InvalidStep"), (He.ga K "InvalidState"), (He.ga K "InvalidText"), (He.ga K "TooLarge"), (He.ga K "Unlike"), (He.ga K "UnknownName"), (He.ga K "NothingLeft")],
  noFldB K [(He.ga K "InvalidLetters"), (He.ga K "InvalidCount"), (He.ga K "InvalidStep"), (He.ga K "InvalidState"), (He.ga K "InvalidText"), (He.ga K "TooLarge"), (He.ga K "Unlike"), (He.ga K "UnknownName"), (He.ga K "NothingLeft")] "at",
  noFldB K [(He.ga K "InvalidLetters"), (He.ga K "InvalidCount"), (He.ga K "InvalidStep"), (He.ga K "InvalidState"), (He.ga K "InvalidText"), (He.ga K "TooLarge"), (He.ga K "Unlike"), (He.ga K "UnknownName"), (He.ga K "NothingLeft")] "bound",
  noFldB K [(He.ga K "InvalidLetters"), (He.ga K "InvalidCount"), (He.ga K "InvalidStep"), (He.ga K "InvalidState"), (He.ga K "InvalidText"), (He.ga K "TooLarge"), (He.ga K "Unlike"), (He.ga K "UnknownName"), (He.ga K "NothingLeft")] "code",
  noFldB K [(He.ga K "InvalidLetters"), (He.ga K "InvalidCount"), (He.ga K "InvalidStep"), (He.ga K "InvalidState"), (He.ga K "InvalidText"), (He.ga K "TooLarge"), (He.ga K "Unlike"), (He.ga K "UnknownName"), (He.ga K "NothingLeft")] "given",
  noFldB K [(He.ga K "InvalidLetters"), (He.ga K "InvalidCount"), (He.ga K "InvalidStep"), (He.ga K "InvalidState"), (He.ga K "InvalidText"), (He.ga K "TooLarge"), (He.ga K "Unlike"), (He.ga K "UnknownName"), (He.ga K "NothingLeft")] "lacking",
  noFldB K [(He.ga K "InvalidLetters"), (He.ga K "InvalidCount"), (He.ga K "InvalidStep"), (He.ga K "InvalidState"), (He.ga K "InvalidText"), (He.ga K "TooLarge"), (He.ga K "Unlike"), (He.ga K "UnknownName"), (He.ga K "NothingLeft")] "name",
  PySem.W.plainGet K (He.ga K "Rule") Str.empty,
  PySem.W.hasDictIn K (He.ga K "Rule"),
  PySem.W.plainOver K (He.ga K "Rule"),
  He.eqO (PySem.W.findIn K (.ref (He.ga K "Rule")) "__setattr__") (some (some (.builtin "object.__setattr__"))),
  He.eqO (PySem.W.nsIn K mainGlobals "Rule") (some (some (.ref (He.ga K "Rule")))),
  He.eqO (PySem.W.findIn K (.ref (He.ga K "Rule")) "by_letter") (some none),
  He.eqO (PySem.W.findIn K (.ref (He.ga K "Rule")) "first_bits") (some none),
  He.eqO (PySem.W.findIn K (.ref (He.ga K "Rule")) "last_bits") (some none),
  He.eqO (PySem.W.findIn K (.ref (He.ga K "Rule")) "own_letters") (some none),
  He.eqO (PySem.W.findIn K (.ref (He.ga K "Rule")) "own_states") (some none),
  He.eqO (PySem.W.findIn K (.ref (He.ga K "Rule")) "rows") (some none),
  PySem.W.readsIn K (He.ga K "Rule") (Hd.tyV K (He.ga K "Rule")),
  He.eqO (PySem.W.specialIn K (.ref (He.ga K "Rule")) "__getattribute__") (some (some (.builtin "type.__getattribute__"))),
  Hd.clsVB K (He.ga K "Rule") "MOST" (.int ((12 : Nat) : Int)),
  nstB K (He.ga K "InvalidText"),
  Hd.glV K "MOST_LETTERS" (.int ((4 : Nat) : Int)),
  Hd.glV K "SMALL" (.str "abcdefghijklmnopqrstuvwxyz"),
  exmAllB K [(He.ga K "InvalidLetters"), (He.ga K "InvalidCount"), (He.ga K "InvalidStep"), (He.ga K "InvalidState"), (He.ga K "InvalidText"), (He.ga K "TooLarge"), (He.ga K "Unlike"), (He.ga K "UnknownName"), (He.ga K "NothingLeft")] [.ref (He.ga K "NearError"), .ref (He.ga K "UnknownName"), .ref (He.ga K "NothingLeft")]]
theorem law_at {w : World} {K : PySem.W.Frag} {h : Heap} {mg : Str → Option Value} {fa : Addr} (run : ∀ T : Nat → Addr, LawOkT (h_law_K07 T) 9 (T 99) lamQ) (X : K.In h) (G : h.Ns mainGlobals mg) (hfa : mg "law" = some (.ref fa)) (c : Hd.Says dfs ers [("law", none)] tst h K) : LamX.LawAtS PySem.Challenge.rw_nearclerk_k07_relations_of_texts w K (L2.CX PySem.Challenge.rw_nearclerk_k07_relations_of_texts.prog w) 10 63 "_law_script" mg fa h := by
  let l := PySem.Challenge.rw_nearclerk_k07_relations_of_texts
  have tp : (l.prog.main.scope.names.lookup ("super" : Str)).isSome = false := by decide +kernel
  obtain ⟨fd_law_open, U_law_open⟩ := c.fun0 0
  obtain ⟨fd_law_pull, U_law_pull⟩ := c.fun0 1
  obtain ⟨fd_law_pick, U_law_pick⟩ := c.fun0 2
  obtain ⟨fd_law_letters, U_law_letters⟩ := c.fun0 3
  obtain ⟨fd_law_some, U_law_some⟩ := c.fun0 4
  obtain ⟨fd_law_plan, U_law_plan⟩ := c.fun0 5
  obtain ⟨fd_is_letters, U_is_letters⟩ := c.fun0 6
  obtain ⟨fd_is_number, U_is_number⟩ := c.fun0 7
  obtain ⟨fd_is_step, U_is_step⟩ := c.fun0 8
  obtain ⟨fd_relation_of, U_relation_of⟩ := c.fun0 9
  obtain ⟨fd_Rule___init__, U_Rule___init__⟩ := c.fun0 10
  obtain ⟨fd_law_made, U_law_made⟩ := c.fun0 11
  obtain ⟨fd_law_text, U_law_text⟩ := c.fun0 12
  obtain ⟨fd_law_same_rel, U_law_same_rel⟩ := c.fun0 13
  obtain ⟨fd_law_image, U_law_image⟩ := c.fun0 14
  obtain ⟨fd_law_chain, U_law_chain⟩ := c.fun0 15
  obtain ⟨fd_law_letter_rel, U_law_letter_rel⟩ := c.fun0 16
  obtain ⟨fd_law_rel, U_law_rel⟩ := c.fun0 17
  obtain ⟨fd_law_like, U_law_like⟩ := c.fun0 18
  obtain ⟨fd_Rule_check_text, U_Rule_check_text⟩ := c.fun0 19
  obtain ⟨fd_identity, U_identity⟩ := c.fun0 20
  obtain ⟨fd_bits_of, U_bits_of⟩ := c.fun0 21
  obtain ⟨fd_image, U_image⟩ := c.fun0 22
  obtain ⟨fd_joined, U_joined⟩ := c.fun0 23
  obtain ⟨fd_Rule_relation, U_Rule_relation⟩ := c.fun0 24
  obtain ⟨fd_Rule_ahead, U_Rule_ahead⟩ := c.fun0 25
  obtain ⟨fd_Rule_run, U_Rule_run⟩ := c.fun0 26
  obtain ⟨fd_Rule_first, U_Rule_first⟩ := c.fun0 27
  obtain ⟨fd_Rule_last, U_Rule_last⟩ := c.fun0 28
  obtain ⟨fd_Rule_least_marking, U_Rule_least_marking⟩ := c.fun0 29
  obtain ⟨fd_Rule___call__, U_Rule___call__⟩ := c.fun0 30
  obtain ⟨fd_is_related, U_is_related⟩ := c.fun0 31
  obtain ⟨fd_Rule_how_many, U_Rule_how_many⟩ := c.fun0 32
  obtain ⟨fd_Rule_states, U_Rule_states⟩ := c.fun0 33
  obtain ⟨fd_is_run, U_is_run⟩ := c.fun0 34
  obtain ⟨fd_Rule_is_marking, U_Rule_is_marking⟩ := c.fun0 35
  obtain ⟨fd_Rule___contains__, U_Rule___contains__⟩ := c.fun0 36
  obtain ⟨fd_Rule_markings, U_Rule_markings⟩ := c.fn 37
  obtain ⟨fd_law, U_law⟩ := c.fun0 38
  obtain ⟨fd_law_told, U_law_told⟩ := c.fun0 39
  obtain ⟨fd_law_field, U_law_field⟩ := c.fun0 40
  obtain ⟨fe_InvalidCount, E_InvalidCount⟩ := Hd.erV_of (P := l.prog) (c.er 0) (c.t 84) rfl rfl rfl (PySem.W.mg_none_of X G (He.eqO_ok (c.t 85))) tp
  obtain ⟨fe_InvalidLetters, E_InvalidLetters⟩ := Hd.erV_of (P := l.prog) (c.er 1) (c.t 88) rfl rfl rfl (PySem.W.mg_none_of X G (He.eqO_ok (c.t 85))) tp
  obtain ⟨fe_InvalidState, E_InvalidState⟩ := Hd.erV_of (P := l.prog) (c.er 2) (c.t 91) rfl rfl rfl (PySem.W.mg_none_of X G (He.eqO_ok (c.t 85))) tp
  obtain ⟨fe_InvalidStep, E_InvalidStep⟩ := Hd.erV_of (P := l.prog) (c.er 3) (c.t 94) rfl rfl rfl (PySem.W.mg_none_of X G (He.eqO_ok (c.t 85))) tp
  obtain ⟨fe_InvalidText, E_InvalidText⟩ := Hd.erV_of (P := l.prog) (c.er 4) (c.t 97) rfl rfl rfl (PySem.W.mg_none_of X G (He.eqO_ok (c.t 85))) tp
  have e := hfa.symm.trans (PySem.W.mg_of X G (He.eqO_ok (c.t 81)))
  cases e
  obtain ⟨oc, od, kV, doc, pm, an, cdv, ct, osl, rfl, lk, hcd⟩ := U_law.ex
  obtain ⟨lc, rfl⟩ := He.codeIn_ref hcd
  have hc : He.codeOf K ("law", none) = lc := He.codeOf_eq (p := ("law", none)) lk rfl
  let W : Facts l.prog K mg (fun n => if n = 0 then (He.ga K "Rule") else if n = 22 then (He.ga K "InvalidCount") else if n = 21 then (He.ga K "InvalidLetters") else if n = 24 then (He.ga K "InvalidState") else if n = 23 then (He.ga K "InvalidStep") else if n = 25 then (He.ga K "InvalidText") else if n = 39 then (He.ga K "TooLarge") else if n = 40 then (He.ga K "Unlike") else if n = 45 then (He.ga K "UnknownName") else if n = 46 then (He.ga K "NothingLeft") else if n = 20 then (He.ga K "NearError") else if n = 99 then He.tabOf K lc else 0) := { m_all := PySem.W.mg_none_of X G (He.eqO_ok (c.t 0)), m_bool := PySem.W.mg_none_of X G (He.eqO_ok (c.t 1)), m_enumerate := PySem.W.mg_none_of X G (He.eqO_ok (c.t 2)), m_int := PySem.W.mg_none_of X G (He.eqO_ok (c.t 3)), m_isinstance := PySem.W.mg_none_of X G (He.eqO_ok (c.t 4)), m_len := PySem.W.mg_none_of X G (He.eqO_ok (c.t 5)), m_list := PySem.W.mg_none_of X G (He.eqO_ok (c.t 6)), m_range := PySem.W.mg_none_of X G (He.eqO_ok (c.t 7)), m_sorted := PySem.W.mg_none_of X G (He.eqO_ok (c.t 8)), m_str := PySem.W.mg_none_of X G (He.eqO_ok (c.t 9)), m_sum := PySem.W.mg_none_of X G (He.eqO_ok (c.t 10)), m_tuple := PySem.W.mg_none_of X G (He.eqO_ok (c.t 11)), m_zip := PySem.W.mg_none_of X G (He.eqO_ok (c.t 12)), f_law_open := _, fd_law_open := _, U_law_open := U_law_open, g_law_open := PySem.W.mg_of X G (He.eqO_ok (c.t 13)), f_law_pull := _, fd_law_pull := _, U_law_pull := U_law_pull, g_law_pull := PySem.W.mg_of X G (He.eqO_ok (c.t 14)), f_law_pick := _, fd_law_pick := _, U_law_pick := U_law_pick, g_law_pick := PySem.W.mg_of X G (He.eqO_ok (c.t 15)), f_law_letters := _, fd_law_letters := _, U_law_letters := U_law_letters, g_law_letters := PySem.W.mg_of X G (He.eqO_ok (c.t 16)), f_law_some := _, fd_law_some := _, U_law_some := U_law_some, g_law_some := PySem.W.mg_of X G (He.eqO_ok (c.t 17)), f_law_plan := _, fd_law_plan := _, U_law_plan := U_law_plan, g_law_plan := PySem.W.mg_of X G (He.eqO_ok (c.t 18)), f_is_letters := _, fd_is_letters := _, U_is_letters := U_is_letters, g_is_letters := PySem.W.mg_of X G (He.eqO_ok (c.t 19)), f_is_number := _, fd_is_number := _, U_is_number := U_is_number, g_is_number := PySem.W.mg_of X G (He.eqO_ok (c.t 20)), f_is_step := _, fd_is_step := _, U_is_step := U_is_step, g_is_step := PySem.W.mg_of X G (He.eqO_ok (c.t 21)), f_relation_of := _, fd_relation_of := _, U_relation_of := U_relation_of, g_relation_of := PySem.W.mg_of X G (He.eqO_ok (c.t 22)), f_Rule___init__ := _, fd_Rule___init__ := _, U_Rule___init__ := U_Rule___init__, mk_Rule := ⟨(c.t 24), (He.eqO_ok (c.t 25)), (c.t 23), (c.t 26)⟩, f_law_made := _, fd_law_made := _, U_law_made := U_law_made, g_law_made := PySem.W.mg_of X G (He.eqO_ok (c.t 27)), f_law_text := _, fd_law_text := _, U_law_text := U_law_text, g_law_text := PySem.W.mg_of X G (He.eqO_ok (c.t 28)), f_law_same_rel := _, fd_law_same_rel := _, U_law_same_rel := U_law_same_rel, g_law_same_rel := PySem.W.mg_of X G (He.eqO_ok (c.t 29)), f_law_image := _, fd_law_image := _, U_law_image := U_law_image, g_law_image := PySem.W.mg_of X G (He.eqO_ok (c.t 30)), f_law_chain := _, fd_law_chain := _, U_law_chain := U_law_chain, g_law_chain := PySem.W.mg_of X G (He.eqO_ok (c.t 31)), f_law_letter_rel := _, fd_law_letter_rel := _, U_law_letter_rel := U_law_letter_rel, g_law_letter_rel := PySem.W.mg_of X G (He.eqO_ok (c.t 32)), f_law_rel := _, fd_law_rel := _, U_law_rel := U_law_rel, g_law_rel := PySem.W.mg_of X G (He.eqO_ok (c.t 33)), f_law_like := _, fd_law_like := _, U_law_like := U_law_like, g_law_like := PySem.W.mg_of X G (He.eqO_ok (c.t 34)), f_Rule_check_text := _, fd_Rule_check_text := _, U_Rule_check_text := U_Rule_check_text, me_Rule_check_text := ⟨(He.eqO_ok (c.t 36)), (c.t 35), (c.t 37)⟩, f_identity := _, fd_identity := _, U_identity := U_identity, g_identity := PySem.W.mg_of X G (He.eqO_ok (c.t 38)), f_bits_of := _, fd_bits_of := _, U_bits_of := U_bits_of, g_bits_of := PySem.W.mg_of X G (He.eqO_ok (c.t 39)), f_image := _, fd_image := _, U_image := U_image, g_image := PySem.W.mg_of X G (He.eqO_ok (c.t 40)), f_joined := _, fd_joined := _, U_joined := U_joined, g_joined := PySem.W.mg_of X G (He.eqO_ok (c.t 41)), f_Rule_relation := _, fd_Rule_relation := _, U_Rule_relation := U_Rule_relation, me_Rule_relation := ⟨(He.eqO_ok (c.t 43)), (c.t 42), (c.t 44)⟩, f_Rule_ahead := _, fd_Rule_ahead := _, U_Rule_ahead := U_Rule_ahead, me_Rule_ahead := ⟨(He.eqO_ok (c.t 46)), (c.t 45), (c.t 47)⟩, f_Rule_run := _, fd_Rule_run := _, U_Rule_run := U_Rule_run, me_Rule_run := ⟨(He.eqO_ok (c.t 49)), (c.t 48), (c.t 50)⟩, f_Rule_first := _, fd_Rule_first := _, U_Rule_first := U_Rule_first, me_Rule_first := ⟨(He.eqO_ok (c.t 52)), (c.t 51), (c.t 53)⟩, f_Rule_last := _, fd_Rule_last := _, U_Rule_last := U_Rule_last, me_Rule_last := ⟨(He.eqO_ok (c.t 55)), (c.t 54), (c.t 56)⟩, f_Rule_least_marking := _, fd_Rule_least_marking := _, U_Rule_least_marking := U_Rule_least_marking, me_Rule_least_marking := ⟨(He.eqO_ok (c.t 58)), (c.t 57), (c.t 59)⟩, f_Rule___call__ := _, fd_Rule___call__ := _, U_Rule___call__ := U_Rule___call__, co_Rule := ⟨(He.eqO_ok (c.t 61)), (c.t 60), (c.t 62)⟩, f_is_related := _, fd_is_related := _, U_is_related := U_is_related, g_is_related := PySem.W.mg_of X G (He.eqO_ok (c.t 63)), f_Rule_how_many := _, fd_Rule_how_many := _, U_Rule_how_many := U_Rule_how_many, me_Rule_how_many := ⟨(He.eqO_ok (c.t 65)), (c.t 64), (c.t 66)⟩, f_Rule_states := _, fd_Rule_states := _, U_Rule_states := U_Rule_states, p_Rule_states := (He.ma K (He.ga K "Rule") "states"), pr_Rule_states := ⟨(He.eqO_ok (c.t 68)), (He.eqO_ok (c.t 69)), (of_decide_eq_true (c.t 70)), Hd.rcB_ok (c.t 71)⟩, f_is_run := _, fd_is_run := _, U_is_run := U_is_run, g_is_run := PySem.W.mg_of X G (He.eqO_ok (c.t 72)), f_Rule_is_marking := _, fd_Rule_is_marking := _, U_Rule_is_marking := U_Rule_is_marking, me_Rule_is_marking := ⟨(He.eqO_ok (c.t 74)), (c.t 73), (c.t 75)⟩, f_Rule___contains__ := _, fd_Rule___contains__ := _, U_Rule___contains__ := U_Rule___contains__, ct_Rule := (He.eqO_ok (c.t 77)), ctf_Rule := (c.t 76), f_Rule_markings := _, fd_Rule_markings := _, U_Rule_markings := U_Rule_markings, me_Rule_markings := ⟨(He.eqO_ok (c.t 79)), (c.t 78), (c.t 80)⟩, f_law := _, fd_law := _, U_law := U_law, g_law := PySem.W.mg_of X G (He.eqO_ok (c.t 81)), f_law_told := _, fd_law_told := _, U_law_told := U_law_told, g_law_told := PySem.W.mg_of X G (He.eqO_ok (c.t 82)), f_law_field := _, fd_law_field := _, U_law_field := U_law_field, g_law_field := PySem.W.mg_of X G (He.eqO_ok (c.t 83)), fe_InvalidCount := _, fde_InvalidCount := _, ec_InvalidCount := E_InvalidCount.ec, ei_InvalidCount := E_InvalidCount.ei, et_InvalidCount := E_InvalidCount.et, g_InvalidCount := PySem.W.mg_of X G E_InvalidCount.g, en_InvalidCount_given := (He.eqO_ok (c.t 86)), en_InvalidCount_code := (He.eqO_ok (c.t 87)), fe_InvalidLetters := _, fde_InvalidLetters := _, ec_InvalidLetters := E_InvalidLetters.ec, ei_InvalidLetters := E_InvalidLetters.ei, et_InvalidLetters := E_InvalidLetters.et, g_InvalidLetters := PySem.W.mg_of X G E_InvalidLetters.g, en_InvalidLetters_given := (He.eqO_ok (c.t 89)), en_InvalidLetters_code := (He.eqO_ok (c.t 90)), fe_InvalidState := _, fde_InvalidState := _, ec_InvalidState := E_InvalidState.ec, ei_InvalidState := E_InvalidState.ei, et_InvalidState := E_InvalidState.et, g_InvalidState := PySem.W.mg_of X G E_InvalidState.g, en_InvalidState_given := (He.eqO_ok (c.t 92)), en_InvalidState_code := (He.eqO_ok (c.t 93)), fe_InvalidStep := _, fde_InvalidStep := _, ec_InvalidStep := E_InvalidStep.ec, ei_InvalidStep := E_InvalidStep.ei, et_InvalidStep := E_InvalidStep.et, g_InvalidStep := PySem.W.mg_of X G E_InvalidStep.g, en_InvalidStep_at := (He.eqO_ok (c.t 95)), en_InvalidStep_code := (He.eqO_ok (c.t 96)), fe_InvalidText := _, fde_InvalidText := _, ec_InvalidText := E_InvalidText.ec, ei_InvalidText := E_InvalidText.ei, et_InvalidText := E_InvalidText.et, g_InvalidText := PySem.W.mg_of X G E_InvalidText.g, en_InvalidText_at := (He.eqO_ok (c.t 98)), en_InvalidText_code := (He.eqO_ok (c.t 99)), g_TooLarge := PySem.W.mg_of X G (He.eqO_ok (c.t 100)), g_Unlike := PySem.W.mg_of X G (He.eqO_ok (c.t 101)), g_UnknownName := PySem.W.mg_of X G (He.eqO_ok (c.t 102)), g_NothingLeft := PySem.W.mg_of X G (He.eqO_ok (c.t 103)), g_NearError := PySem.W.mg_of X G (He.eqO_ok (c.t 104)), xa := (c.t 105), nf_at := (c.t 106), nf_bound := (c.t 107), nf_code := (c.t 108), nf_given := (c.t 109), nf_lacking := (c.t 110), nf_name := (c.t 111), cls_Rule := ⟨(c.t 112), (c.t 113), (c.t 114), (He.eqO_ok (c.t 115))⟩, g_Rule := PySem.W.mg_of X G (He.eqO_ok (c.t 116)), na_Rule_by_letter := (He.eqO_ok (c.t 117)), na_Rule_first_bits := (He.eqO_ok (c.t 118)), na_Rule_last_bits := (He.eqO_ok (c.t 119)), na_Rule_own_letters := (He.eqO_ok (c.t 120)), na_Rule_own_states := (He.eqO_ok (c.t 121)), na_Rule_rows := (He.eqO_ok (c.t 122)), mc_Rule := Hd.tyV K (He.ga K "Rule"), cr_Rule := ⟨(c.t 123), (He.eqO_ok (c.t 124))⟩, cu_Rule_MOST := _, cv_Rule_MOST := Hd.clsVB_ok (c.t 125), nst_InvalidText := (c.t 126), v_MOST_LETTERS := Hd.glV_ok X G (c.t 127), v_SMALL := Hd.glV_ok X G (c.t 128), exm := (c.t 129), lc := _, hlc := rfl }
  have hp : He.cT K ("law", none) = (lc, He.tabOf K lc) := by
    unfold He.cT
    rw [hc]
  have h1 := c.empty _ List.mem_cons_self
  have h2 := c.out _ List.mem_cons_self
  have h3 := c.hd _ List.mem_cons_self
  rw [hp] at h1 h2 h3
  refine ⟨W.fd_law, [(lc, He.tabOf K lc)], Nc.spLawT K (He.tabOf K lc), fun p hp => ?_, fun p hp => ?_, fun p hp => ?_, fun s v => .of_eq rfl, fun H a ns hl _ hH hS => ⟨a, ns, rfl, hS, hl, hH _ List.mem_cons_self, fun _ => rfl⟩, fun base _ _ TB => ok_law W (TB _ List.mem_cons_self) run⟩
  · obtain rfl := List.mem_singleton.mp hp
    exact h1
  · obtain rfl := List.mem_singleton.mp hp
    exact h2
  · obtain rfl := List.mem_singleton.mp hp
    exact PySem.W.codeHd_of_K X h3
def names : List PySem.Str := (["_wall", "NearError", "InvalidLetters", "InvalidCount", "InvalidStep", "InvalidState", "InvalidText", "TooLarge", "Unlike", "UnknownName", "NothingLeft", "identity", "relation_of", "bits_of", "is_related", "image", "joined", "SMALL", "MOST_LETTERS", "MOST_MARKINGS", "is_number", "is_letters", "is_step", "is_run", "Rule", "_law_open", "_law_pull", "_law_pick", "_law_like", "_law_field"] : List PySem.Str) ++ (["_law_told", "_law_letters", "_law_some", "_law_plan", "_law_text", "_law_letter_rel", "_law_image", "_law_chain", "_law_same_rel", "_law_rel", "_law_made"] : List PySem.Str)
abbrev R : PySem.W.OpenRow := PySem.W.OpenLaw.row PySem.Challenge.rw_nearclerk_k07_relations_of_texts
abbrev hk : PySem.W.Hook := Hd.hook 5 dfs ers [("law", none)] tst
def ob (s : PySem.W.SharedT) : Hd.Al × Bool := Hd.obsH 5 dfs ers [("law", none)] tst (HandSHeadRun.getT s)
theorem ob_eq (s : PySem.W.SharedT) : ob s = hk.obs s.abs := Hd.obsH_eq (HandSHeadRun.getT_eq s)
theorem run_false (w : World) : HandSHeadRun.RunEq R (PySem.W.view R.prog [45]) hk ob 30000 names (w.withFollow "special-get-raises" false) := fun os => by kernel_rfl
theorem run_true (w : World) : HandSHeadRun.RunEq R (PySem.W.view R.prog [45]) hk ob 30000 names (w.withFollow "special-get-raises" true) := fun os => by kernel_rfl
theorem run (w : World) : HandSHeadRun.RunEq R (PySem.W.view R.prog [45]) hk ob 30000 names w := PySem.W.byRow2 "special-get-raises" (P := fun w => HandSHeadRun.RunEq R (PySem.W.view R.prog [45]) hk ob 30000 names w) run_false run_true w
end HL
end Nc
open PySem PySem.W PySem.Calls PyProof.Rows
set_option maxHeartbeats 0 in
theorem PySem.Challenge.cw_nearclerk_k07_relations_of_texts_holds : PySem.Challenge.rw_nearclerk_k07_relations_of_texts.Holds := by
  w_on; o_law
  refine HandSHeadRun.head_any (r := OpenLaw.row PySem.Challenge.rw_nearclerk_k07_relations_of_texts) (q := view (OpenLaw.row PySem.Challenge.rw_nearclerk_k07_relations_of_texts).prog [45]) (H := Nc.HL.hk) (ob := Nc.HL.ob) (M := 30000) (loose := Nc.HL.names) (d := HandSHeadRun.topDef (OpenLaw.row PySem.Challenge.rw_nearclerk_k07_relations_of_texts).prog 45) (kwd := []) Nc.HL.ob_eq
    (by kernel_rfl) (fun s => by kernel_rfl) Nc.HL.run (by kernel_rfl) (by kernel_rfl) (by kernel_rfl) (by rfl) (by first | assumption | decide +kernel) (by decide +kernel) ⟨rfl, rfl, rfl, rfl, rfl, by decide +kernel⟩ ?hw ?hc
  case hw => w_witness2
  case hc =>
    refine LamX.walk_ofTsE (l := PySem.Challenge.rw_nearclerk_k07_relations_of_texts) (n := 63) (k := 10) (x := "_law_script") (CX := fun w => L2.CX PySem.Challenge.rw_nearclerk_k07_relations_of_texts.prog w) rfl (by decide) (by kernel_rfl) ⟨rfl, by decide, by decide⟩ ?F (fun _ _ _ _ _ h => by obtain ⟨_, _, _, _, _, _, _, _, _, _, _, _, z⟩ := h; exact z.elim)
    intro w mg fa h Y G hmg0
    obtain ⟨K, KX, c⟩ := Y
    have hmg : mg ("law" : PySem.Str) = some (.ref fa) := by
      have e : (HandSHeadRun.topDef (OpenLaw.row PySem.Challenge.rw_nearclerk_k07_relations_of_texts).prog 45).name = ("law" : PySem.Str) := by kernel_rfl
      rw [← e]
      exact hmg0
    exact ⟨K, KX, Nc.HL.law_at (fun T => Nc.law_run) KX G hmg c⟩

import PyProof.Rows.All
import Wide.All
import OpenK.AllK
import Wide.FinOn
import HandS.ForMost
import HandS.Lambda
import HandS.TupAny
import HandS.SortInts
import HandS.IsInst
import HandS.Conv
import HandS.More
import HandS.Flt
import HandS.Walk
import HandS.DictComp
import KE.GoesMore
import KE.GoesEnum
import HandS.SetFor
import HandS.Strs
import HandS.SortRule
import HandS.Remove
import HandS.CallLocal
import HandS.WrittenGet
import KE.KDictKeyed
import KE.KDictDisplayH
import PyProof.DictTable
import HandS.Nested
import HandS.EndTab
import PyProof.NeKinds
import KE.DataMinMax
import HandS.HeadHook1
import KE.KNestM
import PySem.Challenge.RW_ringclaims_k06_whole_keepers_of_others_w
set_option Elab.async false
set_option linter.all false
set_option maxRecDepth 100000
set_option maxHeartbeats 8000000
/-! K0: data, what a value stands for, stores. -/
namespace K06
open PySem PySem.Spec L2

inductive D where
  | non | bl (b : Bool) | int (i : Int) | str (x : Str)
  | tup (ds : List D) | lst (ds : List D)
  | std (c h : Int) (ds : List D)
  | adr (a : Addr)
  | ty (n : String)
  | obj (f c : Addr) (oc : HO)

abbrev AP1 := Addr → Prop
/-- no table -/
def NT (o : HO) : Prop := ∀ ps, o ≠ .tbl ps
/-- no code object -/
def NC (o : HO) : Prop := ∀ c q, o ≠ LamX.CodeO c q

/-- a Standing's fields -/
def stdF (c h : Int) (t : Addr) : List (Str × V) := [("cells", .int c), ("head", .int h), ("deeds", .ref t)]

mutual
/-- v is the data in H, no list of it at an address of A; CS: the class of standings -/
def Rep (CS : Addr) (H : Hp) (A : AP1) : D → V → Prop
  | .non, v => v = .non
  | .bl b, v => v = .bl b
  | .int i, v => v = .int i
  | .str x, v => v = .str x
  | .tup ds, v => ∃ a vs, v = .ref a ∧ H a = some (.tup vs) ∧ Reps CS H A ds vs
  | .lst ds, v => ∃ a vs, v = .ref a ∧ ¬ A a ∧ H a = some (.lst vs) ∧ Reps CS H A ds vs
  | .std c h ds, v => ∃ a dx t vs, v = .ref a ∧ ¬ A a ∧ H a = some (.ins CS dx (stdF c h t)) ∧ H t = some (.tup vs) ∧ Reps CS H A ds vs
  | .adr a, v => v = .ref a
  | .ty n, v => v = .ty n
  | .obj f c oc, v => v = .ref f ∧ ¬ A c ∧ NT oc ∧ H c = some oc
def Reps (CS : Addr) (H : Hp) (A : AP1) : List D → List V → Prop
  | [], vs => vs = []
  | d :: ds, vs => ∃ v r, vs = v :: r ∧ Rep CS H A d v ∧ Reps CS H A ds r
end

mutual
/-- no list, no object within -/
def LF : D → Bool
  | .non => true | .bl _ => true | .int _ => true | .str _ => true
  | .tup ds => LFs ds
  | .lst _ => false | .std _ _ _ => false | .obj _ _ _ => false
  | .adr _ => true
  | .ty _ => true
def LFs : List D → Bool
  | [] => true
  | d :: ds => LF d && LFs ds
end

variable {CS : Addr} {H H' : Hp} {A A' : AP1}

/-- tuples stay; what is outside A stays -/
structure Stay (A : AP1) (H H' : Hp) : Prop where
  tup : ∀ a vs, H a = some (.tup vs) → H' a = some (.tup vs)
  out' : ∀ a o, ¬ A a → NT o → H a = some o → H' a = some o
theorem Stay.out {A : AP1} {H H' : Hp} (s : Stay A H H') (a : Addr) (o : HO) (n : ¬ A a) (h : H a = some o) (t : NT o := by intro _ z; cases z) : H' a = some o := s.out' a o n t h

mutual
theorem Rep.stay (s : Stay A H H') : ∀ (d : D) (v : V), Rep CS H A d v → Rep CS H' A d v
  | .non, v, h => h
  | .bl _, v, h => h
  | .int _, v, h => h
  | .str _, v, h => h
  | .tup ds, v, h => by
    obtain ⟨a, vs, e, h1, h2⟩ := h
    exact ⟨a, vs, e, s.tup a vs h1, Reps.stay s ds vs h2⟩
  | .lst ds, v, h => by
    obtain ⟨a, vs, e, n, h1, h2⟩ := h
    exact ⟨a, vs, e, n, s.out a _ n h1, Reps.stay s ds vs h2⟩
  | .std c hh ds, v, h => by
    obtain ⟨a, dx, t, vs, e, n, h1, h2, h3⟩ := h
    exact ⟨a, dx, t, vs, e, n, s.out a _ n h1, s.tup t vs h2, Reps.stay s ds vs h3⟩
  | .adr _, v, h => h
  | .ty _, v, h => h
  | .obj f c oc, v, h => by
    obtain ⟨e, n, t, h2⟩ := h
    exact ⟨e, n, t, s.out' c _ n t h2⟩
theorem Reps.stay (s : Stay A H H') : ∀ (ds : List D) (vs : List V), Reps CS H A ds vs → Reps CS H' A ds vs
  | [], vs, h => h
  | d :: ds, vs, h => by
    obtain ⟨v, r, e, h1, h2⟩ := h
    exact ⟨v, r, e, Rep.stay s d v h1, Reps.stay s ds r h2⟩
end
mutual
/-- another set to avoid -/
theorem Rep.anti (s : ∀ a, A' a → A a) : ∀ (d : D) (v : V), Rep CS H A d v → Rep CS H A' d v
  | .non, v, h => h
  | .bl _, v, h => h
  | .int _, v, h => h
  | .str _, v, h => h
  | .tup ds, v, h => by
    obtain ⟨a, vs, e, h1, h2⟩ := h
    exact ⟨a, vs, e, h1, Reps.anti s ds vs h2⟩
  | .lst ds, v, h => by
    obtain ⟨a, vs, e, n, h1, h2⟩ := h
    exact ⟨a, vs, e, fun z => n (s a z), h1, Reps.anti s ds vs h2⟩
  | .std c hh ds, v, h => by
    obtain ⟨a, dx, t, vs, e, n, h1, h2, h3⟩ := h
    exact ⟨a, dx, t, vs, e, fun z => n (s a z), h1, h2, Reps.anti s ds vs h3⟩
  | .adr _, v, h => h
  | .ty _, v, h => h
  | .obj f c oc, v, h => by
    obtain ⟨e, n, t, h2⟩ := h
    exact ⟨e, fun z => n (s c z), t, h2⟩
theorem Reps.anti (s : ∀ a, A' a → A a) : ∀ (ds : List D) (vs : List V), Reps CS H A ds vs → Reps CS H A' ds vs
  | [], vs, h => h
  | d :: ds, vs, h => by
    obtain ⟨v, r, e, h1, h2⟩ := h
    exact ⟨v, r, e, Rep.anti s d v h1, Reps.anti s ds r h2⟩
end
mutual
/-- without lists: no matter what is to be avoided -/
theorem Rep.lf : ∀ (d : D) (v : V), LF d = true → Rep CS H A d v → Rep CS H A' d v
  | .non, v, _, h => h
  | .bl _, v, _, h => h
  | .int _, v, _, h => h
  | .str _, v, _, h => h
  | .tup ds, v, l, h => by
    obtain ⟨a, vs, e, h1, h2⟩ := h
    exact ⟨a, vs, e, h1, Reps.lf ds vs (by simpa [LF] using l) h2⟩
  | .lst ds, v, l, h => by simp [LF] at l
  | .std c hh ds, v, l, h => by simp [LF] at l
  | .adr _, v, _, h => h
  | .ty _, v, _, h => h
  | .obj f c oc, v, l, h => by simp [LF] at l
theorem Reps.lf : ∀ (ds : List D) (vs : List V), LFs ds = true → Reps CS H A ds vs → Reps CS H A' ds vs
  | [], vs, _, h => h
  | d :: ds, vs, l, h => by
    obtain ⟨v, r, e, h1, h2⟩ := h
    have l2 : LF d = true ∧ LFs ds = true := by simpa [LFs] using l
    exact ⟨v, r, e, Rep.lf d v l2.1 h1, Reps.lf ds r l2.2 h2⟩
end

theorem Reps.len : ∀ {ds : List D} {vs : List V}, Reps CS H A ds vs → vs.length = ds.length
  | [], vs, h => by
    have e : vs = [] := h
    rw [e]
    rfl
  | d :: ds, vs, h => by
    obtain ⟨v, r, e, _, h2⟩ := h
    rw [e]
    show r.length + 1 = ds.length + 1
    rw [Reps.len h2]
theorem Reps.get : ∀ {ds : List D} {vs : List V} {i : Nat} {d : D}, Reps CS H A ds vs → ds[i]? = some d → ∃ v, vs[i]? = some v ∧ Rep CS H A d v
  | [], vs, i, d, _, e => by simp at e
  | d :: ds, vs, 0, d', h, e => by
    obtain ⟨v, r, e1, h1, _⟩ := h
    rw [e1]
    have e2 : d = d' := by simpa using e
    exact ⟨v, rfl, e2 ▸ h1⟩
  | d :: ds, vs, i + 1, d', h, e => by
    obtain ⟨v, r, e1, _, h2⟩ := h
    obtain ⟨w, e3, h3⟩ := Reps.get (i := i) (d := d') h2 (by simpa using e)
    rw [e1]
    exact ⟨w, by simpa using e3, h3⟩
theorem Reps.app : ∀ {ds es : List D} {vs ws : List V}, Reps CS H A ds vs → Reps CS H A es ws → Reps CS H A (ds ++ es) (vs ++ ws)
  | [], es, vs, ws, h, h' => by
    have e : vs = [] := h
    rw [e]
    exact h'
  | d :: ds, es, vs, ws, h, h' => by
    obtain ⟨v, r, e1, h1, h2⟩ := h
    rw [e1]
    exact ⟨v, r ++ ws, rfl, h1, Reps.app h2 h'⟩
theorem Reps.one {d : D} {v : V} (h : Rep CS H A d v) : Reps CS H A [d] [v] := ⟨v, [], rfl, h, rfl⟩
theorem Reps.set : ∀ {ds : List D} {vs : List V} (i : Nat) {d : D} {v : V}, Reps CS H A ds vs → Rep CS H A d v → Reps CS H A (ds.set i d) (vs.set i v)
  | [], vs, i, d, v, h, _ => by
    have e : vs = [] := h
    rw [e]
    rfl
  | d :: ds, vs, 0, d', v', h, h' => by
    obtain ⟨v, r, e1, h1, h2⟩ := h
    rw [e1]
    exact ⟨v', r, rfl, h', h2⟩
  | d :: ds, vs, i + 1, d', v', h, h' => by
    obtain ⟨v, r, e1, h1, h2⟩ := h
    rw [e1]
    exact ⟨v, r.set i v', rfl, h1, Reps.set i h2 h'⟩
theorem Reps.take : ∀ {ds : List D} {vs : List V} (n : Nat), Reps CS H A ds vs → Reps CS H A (ds.take n) (vs.take n)
  | _, _, 0, _ => by
    simp only [List.take_zero]
    exact rfl
  | [], vs, n + 1, h => by
    have e : vs = [] := h
    rw [e]
    rfl
  | d :: ds, vs, n + 1, h => by
    obtain ⟨v, r, e1, h1, h2⟩ := h
    rw [e1]
    exact ⟨v, r.take n, rfl, h1, Reps.take n h2⟩
theorem Reps.drop : ∀ {ds : List D} {vs : List V} (n : Nat), Reps CS H A ds vs → Reps CS H A (ds.drop n) (vs.drop n)
  | ds, vs, 0, h => h
  | [], vs, n + 1, h => by
    have e : vs = [] := h
    rw [e]
    rfl
  | d :: ds, vs, n + 1, h => by
    obtain ⟨v, r, e1, h1, h2⟩ := h
    rw [e1]
    exact Reps.drop n h2
theorem Reps.erase : ∀ {ds : List D} {vs : List V} (n : Nat), Reps CS H A ds vs → Reps CS H A (ds.eraseIdx n) (vs.eraseIdx n)
  | [], vs, n, h => by
    have e : vs = [] := h
    rw [e]
    rfl
  | d :: ds, vs, 0, h => by
    obtain ⟨v, r, e1, h1, h2⟩ := h
    rw [e1]
    exact h2
  | d :: ds, vs, n + 1, h => by
    obtain ⟨v, r, e1, h1, h2⟩ := h
    rw [e1]
    exact ⟨v, r.eraseIdx n, rfl, h1, Reps.erase n h2⟩
theorem Reps.nil : Reps CS H A [] [] := rfl
theorem Reps.cons {d : D} {ds : List D} {v : V} {vs : List V} (h : Rep CS H A d v) (h' : Reps CS H A ds vs) : Reps CS H A (d :: ds) (v :: vs) := ⟨v, vs, rfl, h, h'⟩
theorem Reps.ints : ∀ {ns : List Int} {vs : List V}, Reps CS H A (ns.map D.int) vs → vs = ns.map V.int
  | [], vs, h => h
  | n :: ns, vs, h => by
    obtain ⟨v, r, e1, h1, h2⟩ := h
    have e2 : v = .int n := h1
    rw [e1, e2, Reps.ints h2]
    rfl
theorem Reps.of_ints : ∀ (ns : List Int), Reps CS H A (ns.map D.int) (ns.map V.int)
  | [] => rfl
  | n :: ns => ⟨.int n, ns.map V.int, rfl, rfl, Reps.of_ints ns⟩
theorem Reps.bls : ∀ {ns : List Bool} {vs : List V}, Reps CS H A (ns.map D.bl) vs → vs = ns.map V.bl
  | [], vs, h => h
  | n :: ns, vs, h => by
    obtain ⟨v, r, e1, h1, h2⟩ := h
    have e2 : v = .bl n := h1
    rw [e1, e2, Reps.bls h2]
    rfl

/-! ### stores -/
/-- the drawing hand: its cells, its four numbers -/
structure Hand where
  cells : List Int
  at_ : Int
  cur : Int
  seed : Int
  cnt : Int
def Hand.vals (c : Addr) (g : Hand) : List V := [.ref c, .int g.at_, .int g.cur, .int g.seed, .int g.cnt]

inductive Slot where
  | im (d : D)
  | ml (l : Addr) (ds : List D)
  | md (l : Addr) (kvs : List (Int × D))
  | hd (p c : Addr) (g : Hand)
  | ob (l : Addr) (fs : List (Str × D))
  | ex (l : Addr) (ks : List D) (Φ : List V → Heap → Prop)
  | tb (ts : List (Addr × Str))
abbrev Sto := List (Option Slot)
def Slot.addr : Slot → Option Addr
  | .im _ => none
  | .ml l _ => some l
  | .md l _ => some l
  | .hd p _ _ => some p
  | .ob l _ => some l
  | .ex l _ _ => some l
  | .tb _ => none

/-- the pairs of a dict -/
def ReKV (CS : Addr) (H : Hp) (A : AP1) (kvs : List (Int × D)) (kv : List (Key × V)) : Prop :=
  kv.map (·.1) = kvs.map (fun p => (Sum.inl p.1 : Key)) ∧ Reps CS H A (kvs.map (·.2)) (kv.map (·.2))

/-- what was lent to be written; what is to be avoided, though it stays (a list under way) -/
structure Bo where
  b : AP1
  z : AP1
  t : List (Addr × Str)
/-- the addresses that may be written: those of one's own, those that were lent -/
abbrev Mu (A : AP1) (B : Bo) : AP1 := fun a => A a ∨ B.b a
/-- .. and those that stay, but are avoided -/
abbrev Un2 (A : AP1) (B : Bo) : AP1 := fun a => Mu A B a ∨ B.z a

def SlotOk (CS : Addr) (A : AP1) (B : Bo) (H : Hp) : Slot → V → Prop
  | .im d, v => Rep CS H (Un2 A B) d v
  | .ml l ds, v => v = .ref l ∧ A l ∧ LFs ds = true ∧ ∃ vs, H l = some (.lst vs) ∧ Reps CS H (Un2 A B) ds vs
  | .md l kvs, v => v = .ref l ∧ A l ∧ LFs (kvs.map (·.2)) = true ∧ ∃ kv, H l = some (.dK kv) ∧ ReKV CS H (Un2 A B) kvs kv
  | .hd p c g, v => v = .ref p ∧ Mu A B p ∧ ¬ Un2 A B c ∧ H p = some (.lst (g.vals c)) ∧ H c = some (.lst (g.cells.map V.int))
  | .ob l fs, v => v = .ref l ∧ A l ∧ LFs (fs.map (·.2)) = true ∧ ∃ dx fv, H l = some (.ins CS dx fv) ∧ fv.map (·.1) = fs.map (·.1) ∧ Reps CS H (Un2 A B) (fs.map (·.2)) (fv.map (·.2))
  | .ex l ks Φ, v => v = .ref l ∧ A l ∧ LFs ks = true ∧ ∃ us, H l = some (.ext (Φ us)) ∧ NC (.ext (Φ us)) ∧ Reps CS H (Un2 A B) ks us
  | .tb ts, _ => B.t = ts

/-- the tables of code objects that are known -/
structure Tbs (A : AP1) (B : Bo) (H : Hp) : Prop where
  tb : ∀ p ∈ B.t, LamX.TabS H p.1 p.2
  nc : B.t ≠ [] → ∀ c q, H c = some (LamX.CodeO c q) → ¬ Un2 A B c
structure SR (CS : Addr) (A : AP1) (B : Bo) (σ : St) (H : Hp) (δ : Sto) : Prop where
  len : σ.length = δ.length
  muts : ∀ a, Un2 A B a → Mut (H a)
  sl : ∀ (i : Nat) (s : Slot), δ[i]? = some (some s) → ∃ v, σ[i]? = some (some v) ∧ SlotOk CS A B H s v
  sep : ∀ (i j : Nat) (s s' : Slot) (l : Addr), δ[i]? = some (some s) → δ[j]? = some (some s') → s.addr = some l → s'.addr = some l → i = j
  tabs : Tbs A B H

/-- from (A, H) to (A', H') -/
structure Ext (A : AP1) (B : Bo) (H : Hp) (A' : AP1) (H' : Hp) : Prop where
  out' : ∀ a o, ¬ Mu A B a → (B.t = [] ∨ NT o) → H a = some o → H' a = some o
  mono : ∀ a, A a → A' a
  new : ∀ a, A' a → A a ∨ H a = none
  there : ∀ a, H a ≠ none → H' a ≠ none
  tup : ∀ a vs, H a = some (.tup vs) → H' a = some (.tup vs)

variable {B : Bo} {σ : L2.St} {δ : Sto}

theorem Ext.out {A1 : AP1} {H1 : Hp} (e : Ext A B H A1 H1) (a : Addr) (o : HO) (n : ¬ Mu A B a) (h : H a = some o) (t : NT o := by intro _ z; cases z) : H1 a = some o := e.out' a o n (.inr t) h
theorem Same.ext (s : Same H H') : Ext A B H A H' :=
  ⟨fun a o _ _ h => s a o h, fun _ h => h, fun _ h => .inl h, fun a h => by
    cases q : H a with
    | none => exact absurd q h
    | some o => rw [s a o q]; simp, fun a vs h => s a _ h⟩
theorem Ext.refl : Ext A B H A H := Same.ext (Same.refl H)
theorem Ext.trans {A1 A2 : AP1} {H1 H2 : Hp} (e : Ext A B H A1 H1) (f : Ext A1 B H1 A2 H2) : Ext A B H A2 H2 where
  out' := fun a o n hN h => by
    refine f.out' a o (fun z => ?_) hN (e.out' a o n hN h)
    rcases z with z | z
    · rcases e.new a z with y | y
      · exact n (.inl y)
      · rw [y] at h; cases h
    · exact n (.inr z)
  mono := fun a h => f.mono a (e.mono a h)
  new := fun a h => by
    rcases f.new a h with y | y
    · exact e.new a y
    · refine .inr ?_
      cases q : H a with
      | none => rfl
      | some o => exact absurd y (e.there a (by rw [q]; simp))
  there := fun a h => f.there a (e.there a h)
  tup := fun a vs h => f.tup a vs (e.tup a vs h)
theorem Ext.stay {A1 : AP1} {H1 : Hp} (e : Ext A B H A1 H1) : Stay (Un2 A B) H H1 := ⟨e.tup, fun a o n t h => e.out' a o (fun z => n (.inl z)) (.inr t) h⟩
/-- a value that stands for data still does, behind a step of the same A -/
theorem Ext.rep {H1 : Hp} {d : D} {v : V} (e : Ext A B H A H1) (h : Rep CS H (Un2 A B) d v) : Rep CS H1 (Un2 A B) d v := Rep.stay e.stay d v h
theorem Ext.reps {H1 : Hp} {ds : List D} {vs : List V} (e : Ext A B H A H1) (h : Reps CS H (Un2 A B) ds vs) : Reps CS H1 (Un2 A B) ds vs := Reps.stay e.stay ds vs h
theorem Same.stay (s : Same H H') : Stay A H H' := ⟨fun a vs h => s a _ h, fun a o _ _ h => s a o h⟩

/-- tracked things aren't fresh -/
theorem SR.tracked (r : SR CS A B σ H δ) {a : Addr} (h : Un2 A B a) : H a ≠ none := fun z => by
  have m := r.muts a h
  rw [z] at m
  exact m
theorem SR.fresh (r : SR CS A B σ H δ) {a : Addr} (h : H a = none) : ¬ Un2 A B a := fun z => r.tracked z h
theorem SlotOk.same {s : Slot} {v : V} (e : Same H H') (h : SlotOk CS A B H s v) : SlotOk CS A B H' s v := by
  cases s with
  | im d => exact Rep.stay (Same.stay e) d v h
  | ml l ds =>
    obtain ⟨h1, h2, lf, vs, h3, h4⟩ := h
    exact ⟨h1, h2, lf, vs, e _ _ h3, Reps.stay (Same.stay e) ds vs h4⟩
  | md l kvs =>
    obtain ⟨h1, h2, lf, vs, h3, h4, h5⟩ := h
    exact ⟨h1, h2, lf, vs, e _ _ h3, h4, Reps.stay (Same.stay e) _ _ h5⟩
  | hd p c g =>
    obtain ⟨h1, h2, h3, h4, h5⟩ := h
    exact ⟨h1, h2, h3, e _ _ h4, e _ _ h5⟩
  | ob l fs =>
    obtain ⟨h1, h2, lf, dx, fv, h3, h4, h5⟩ := h
    exact ⟨h1, h2, lf, dx, fv, e _ _ h3, h4, Reps.stay (Same.stay e) _ _ h5⟩
  | ex l ks Φ =>
    obtain ⟨h1, h2, lf, us, h3, h4, h5⟩ := h
    exact ⟨h1, h2, lf, us, e _ _ h3, h4, Reps.stay (Same.stay e) _ _ h5⟩
  | tb ts => exact h
theorem SR.same (e : Same H H') (r : SR CS A B σ H δ) : SR CS A B σ H' δ := by
  refine ⟨r.len, fun a h => ?_, fun i s h => ?_, r.sep, ⟨fun p hp => (r.tabs.tb p hp).ext e, fun hB c q hc hu => ?_⟩⟩
  · have m := r.muts a h
    cases q : H a with
    | none => rw [q] at m; exact m.elim
    | some o =>
      rw [q] at m
      rw [e a o q]
      exact m
  · obtain ⟨v, h1, h2⟩ := r.sl i s h
    exact ⟨v, h1, h2.same e⟩
  · cases q2 : H c with
    | none => exact r.tracked hu q2
    | some o =>
      have e2 := e c o q2
      rw [hc] at e2
      cases e2
      exact r.tabs.nc hB c q q2 hu
/-- a slot is set to a value -/
theorem SR.set {i : Nat} {d : D} {v : V} (r : SR CS A B σ H δ) (hi : i < δ.length) (h : Rep CS H (Un2 A B) d v) : SR CS A B (σ.set i (some v)) H (δ.set i (some (.im d))) := by
  have hs : i < σ.length := by
    rw [r.len]
    exact hi
  refine ⟨by simp [r.len], r.muts, fun j s e => ?_, fun j k s s' l e1 e2 a1 a2 => ?_, r.tabs⟩
  · by_cases hj : j = i
    · subst hj
      rw [List.getElem?_set_self hi] at e
      cases e
      exact ⟨v, by rw [List.getElem?_set_self hs], h⟩
    · rw [List.getElem?_set_ne (Ne.symm hj)] at e
      obtain ⟨u, h1, h2⟩ := r.sl j s e
      exact ⟨u, by rw [List.getElem?_set_ne (Ne.symm hj)]; exact h1, h2⟩
  · by_cases hj : j = i
    · subst hj
      rw [List.getElem?_set_self hi] at e1
      cases e1
      cases a1
    · by_cases hk : k = i
      · subst hk
        rw [List.getElem?_set_self hi] at e2
        cases e2
        cases a2
      · rw [List.getElem?_set_ne (Ne.symm hj)] at e1
        rw [List.getElem?_set_ne (Ne.symm hk)] at e2
        exact r.sep j k s s' l e1 e2 a1 a2
/-- a slot is forgotten -/
theorem SR.forget {i : Nat} (r : SR CS A B σ H δ) : SR CS A B σ H (δ.set i none) := by
  refine ⟨by simp [r.len], r.muts, fun j s e => ?_, fun j k s s' l e1 e2 a1 a2 => ?_, r.tabs⟩
  · by_cases hj : j = i
    · subst hj
      by_cases hi : j < δ.length
      · rw [List.getElem?_set_self hi] at e; cases e
      · rw [List.getElem?_eq_none (by simp; omega)] at e; cases e
    · rw [List.getElem?_set_ne (Ne.symm hj)] at e
      exact r.sl j s e
  · have back : ∀ (m : Nat) (s : Slot), (δ.set i none)[m]? = some (some s) → δ[m]? = some (some s) := fun m s e => by
      by_cases hj : m = i
      · subst hj
        by_cases hi : m < δ.length
        · rw [List.getElem?_set_self hi] at e; cases e
        · rw [List.getElem?_eq_none (by simp; omega)] at e; cases e
      · rw [List.getElem?_set_ne (Ne.symm hj)] at e
        exact e
    exact r.sep j k s s' l (back j s e1) (back k s' e2) a1 a2
/-- what is known may be less -/
theorem SR.less {δ' : Sto} (r : SR CS A B σ H δ) (hl : δ'.length = δ.length) (h : ∀ (i : Nat) (s : Slot), δ'[i]? = some (some s) → δ[i]? = some (some s)) : SR CS A B σ H δ' :=
  ⟨r.len.trans hl.symm, r.muts, fun i s e => r.sl i s (h i s e), fun i j s s' l e1 e2 => r.sep i j s s' l (h i s e1) (h j s' e2), r.tabs⟩
/-- the slots may be less -/
theorem SR.lessσ {σ' : St} (r : SR CS A B σ H δ) (hl : σ'.length = σ.length) (h : ∀ (i : Nat) (s : Slot), δ[i]? = some (some s) → σ'[i]? = σ[i]?) : SR CS A B σ' H δ :=
  ⟨hl.trans r.len, r.muts, fun i s e => by
    obtain ⟨v, h1, h2⟩ := r.sl i s e
    exact ⟨v, (h i s e).trans h1, h2⟩, r.sep, r.tabs⟩

/-- the heap changes at l alone, where no data is -/
theorem stay_upd {l : Addr} {o : HO} (hl : A l) (hm : Mut (H l)) : Stay A H (upd H l o) := by
  refine ⟨fun a vs e => ?_, fun a u n _ e => ?_⟩
  · have ne : a ≠ l := fun z => by
      subst z
      rw [e] at hm
      exact hm
    rw [upd_ne ne]
    exact e
  · have ne : a ≠ l := fun z => n (z ▸ hl)
    rw [upd_ne ne]
    exact e
theorem Slot.addr_ne {s : Slot} {l : Addr} (h : s.addr ≠ some l) {v : V} {o : HO} (hu : Un2 A B l) (hm : Mut (H l)) (hs : SlotOk CS A B H s v) : SlotOk CS A B (upd H l o) s v := by
  have st : Stay (Un2 A B) H (upd H l o) := stay_upd hu hm
  cases s with
  | im d => exact Rep.stay st d v hs
  | ml a ds =>
    obtain ⟨h1, h2, lf, vs, h3, h4⟩ := hs
    have ne : a ≠ l := fun z => h (by rw [z]; rfl)
    exact ⟨h1, h2, lf, vs, by rw [upd_ne ne]; exact h3, Reps.stay st ds vs h4⟩
  | md a kvs =>
    obtain ⟨h1, h2, lf, vs, h3, h4, h5⟩ := hs
    have ne : a ≠ l := fun z => h (by rw [z]; rfl)
    exact ⟨h1, h2, lf, vs, by rw [upd_ne ne]; exact h3, h4, Reps.stay st _ _ h5⟩
  | hd p c g =>
    obtain ⟨h1, h2, h3, h4, h5⟩ := hs
    have ne : p ≠ l := fun z => h (by rw [z]; rfl)
    have nc : c ≠ l := fun z => h3 (z ▸ hu)
    exact ⟨h1, h2, h3, by rw [upd_ne ne]; exact h4, by rw [upd_ne nc]; exact h5⟩
  | ob a fs =>
    obtain ⟨h1, h2, lf, dx, fv, h3, h4, h5⟩ := hs
    have ne : a ≠ l := fun z => h (by rw [z]; rfl)
    exact ⟨h1, h2, lf, dx, fv, by rw [upd_ne ne]; exact h3, h4, Reps.stay st _ _ h5⟩
  | ex a ks Φ =>
    obtain ⟨h1, h2, lf, us, h3, h4, h5⟩ := hs
    have ne : a ≠ l := fun z => h (by rw [z]; rfl)
    exact ⟨h1, h2, lf, us, by rw [upd_ne ne]; exact h3, h4, Reps.stay st _ _ h5⟩
  | tb ts => exact hs
theorem tabs_upd {H : Hp} {l : Addr} {o : HO} {P : Addr} {q : Str} (t : LamX.TabS H P q) (hP : P ≠ l) (hc : ∀ c q, H c = some (LamX.CodeO c q) → c ≠ l) : LamX.TabS (upd H l o) P q := by
  obtain ⟨ps, h1, h2, h3⟩ := t
  refine ⟨ps, by rw [upd_ne hP]; exact h1, h2, fun pos cv h => ?_⟩
  obtain ⟨c, e1, e2⟩ := h3 pos cv h
  exact ⟨c, e1, by rw [upd_ne (hc c q e2)]; exact e2⟩
theorem Tbs.upd {l : Addr} {o : HO} (t : Tbs A B H) (hm : Mut (H l)) (hu : Un2 A B l) (hn : NC o) : Tbs A B (upd H l o) := by
  refine ⟨fun p hp => ?_, fun hB c q hc hu' => ?_⟩
  · have hB : B.t ≠ [] := fun z => by rw [z] at hp; cases hp
    refine tabs_upd (t.tb p hp) (fun z => ?_) fun c q hc z => t.nc hB c q hc (z ▸ hu)
    obtain ⟨ps, h1, _⟩ := t.tb p hp
    rw [z] at h1
    rw [h1] at hm
    exact hm
  · by_cases e : c = l
    · rw [e, upd_same] at hc
      exact hn _ _ (Option.some.inj hc)
    · rw [upd_ne e] at hc
      exact t.nc hB c q hc hu'
/-- a slot's thing at l is written: s ↦ s' -/
theorem SR.write {i : Nat} {s s' : Slot} {l : Addr} {o : HO} {v : V} (r : SR CS A B σ H δ) (hi : δ[i]? = some (some s)) (ha : s.addr = some l) (ha' : s'.addr = some l) (hv : σ[i]? = some (some v)) (hu : Un2 A B l)
    (hm : Mut (some o)) (new : SlotOk CS A B (upd H l o) s' v) (hn : NC o := by intro _ _ z; unfold LamX.CodeO at z; cases z) : SR CS A B σ (upd H l o) (δ.set i (some s')) := by
  have hil : i < δ.length := (List.getElem?_eq_some_iff.mp hi).1
  have hml : Mut (H l) := r.muts l hu
  refine ⟨by simp [r.len], fun a h => ?_, fun j t e => ?_, fun j k t t' m e1 e2 a1 a2 => ?_, r.tabs.upd hml hu hn⟩
  · by_cases e : a = l
    · rw [e, upd_same]
      exact hm
    · rw [upd_ne e]
      exact r.muts a h
  · by_cases hj : j = i
    · subst hj
      rw [List.getElem?_set_self hil] at e
      cases e
      exact ⟨v, hv, new⟩
    · rw [List.getElem?_set_ne (Ne.symm hj)] at e
      obtain ⟨u, h1, h2⟩ := r.sl j t e
      refine ⟨u, h1, Slot.addr_ne (fun z => hj (r.sep j i t s l e hi z ha)) hu hml h2⟩
  · have back : ∀ (n : Nat) (u : Slot), (δ.set i (some s'))[n]? = some (some u) → u.addr = some m → ∃ u', δ[n]? = some (some u') ∧ u'.addr = some m := fun n u e a => by
      by_cases hj : n = i
      · subst hj
        rw [List.getElem?_set_self hil] at e
        cases e
        exact ⟨s, hi, ha.trans (ha'.symm.trans a)⟩
      · rw [List.getElem?_set_ne (Ne.symm hj)] at e
        exact ⟨u, e, a⟩
    obtain ⟨u1, b1, c1⟩ := back j t e1 a1
    obtain ⟨u2, b2, c2⟩ := back k t' e2 a2
    exact r.sep j k u1 u2 m b1 b2 c1 c2
theorem Ext.upd {l : Addr} {o : HO} (hu : Mu A B l) (hm : Mut (H l)) : Ext A B H A (upd H l o) := by
  have st : Stay (Mu A B) H (L2.upd H l o) := stay_upd hu hm
  refine ⟨fun a u n _ e => by rw [upd_ne (fun z : a = l => n (by rw [z]; exact hu))]; exact e, fun _ h => h, fun _ h => .inl h, fun a h => ?_, st.tup⟩
  by_cases e : a = l
  · rw [e, upd_same]
    simp
  · rw [upd_ne e]
    exact h
/-- the same names hold data, the same hands -/
structure Cng (δ δ' : Sto) : Prop where
  im : ∀ (i : Nat) (d : D), δ'[i]? = some (some (.im d)) → δ[i]? = some (some (.im d))
  hd : ∀ (i : Nat) (p c : Addr) (g : Hand), δ'[i]? = some (some (.hd p c g)) → ∃ g', δ[i]? = some (some (.hd p c g'))
theorem Cng.refl : Cng δ δ := ⟨fun _ _ h => h, fun _ _ _ g h => ⟨g, h⟩⟩
theorem Cng.trans {δ1 δ2 : Sto} (a : Cng δ δ1) (b : Cng δ1 δ2) : Cng δ δ2 := ⟨fun i d h => a.im i d (b.im i d h), fun i p c g h => by
  obtain ⟨g', h'⟩ := b.hd i p c g h
  exact a.hd i p c g' h'⟩
theorem Cng.ml {i : Nat} {l : Addr} {ds : List D} : Cng δ (δ.set i (some (.ml l ds))) := by
  refine ⟨fun j d e => ?_, fun j p c g e => ?_⟩
  · by_cases hj : j = i
    · subst hj
      by_cases hi : j < δ.length
      · rw [List.getElem?_set_self hi] at e; cases e
      · rw [List.getElem?_eq_none (by simp; omega)] at e; cases e
    · rw [List.getElem?_set_ne (Ne.symm hj)] at e
      exact e
  · by_cases hj : j = i
    · subst hj
      by_cases hi : j < δ.length
      · rw [List.getElem?_set_self hi] at e; cases e
      · rw [List.getElem?_eq_none (by simp; omega)] at e; cases e
    · rw [List.getElem?_set_ne (Ne.symm hj)] at e
      exact ⟨g, e⟩
theorem Cng.hd' {i : Nat} {p c : Addr} {g g' : Hand} (h : δ[i]? = some (some (.hd p c g))) : Cng δ (δ.set i (some (.hd p c g'))) := by
  refine ⟨fun j d e => ?_, fun j p' c' g1 e => ?_⟩
  · by_cases hj : j = i
    · subst hj
      by_cases hi : j < δ.length
      · rw [List.getElem?_set_self hi] at e; cases e
      · rw [List.getElem?_eq_none (by simp; omega)] at e; cases e
    · rw [List.getElem?_set_ne (Ne.symm hj)] at e
      exact e
  · by_cases hj : j = i
    · subst hj
      by_cases hi : j < δ.length
      · rw [List.getElem?_set_self hi] at e; cases e
        exact ⟨g, h⟩
      · rw [List.getElem?_eq_none (by simp; omega)] at e; cases e
    · rw [List.getElem?_set_ne (Ne.symm hj)] at e
      exact ⟨g1, e⟩
/-- a new address comes under one's own -/
theorem SR.own {l : Addr} (r : SR CS A B σ H δ) (hl : ¬ Un2 A B l) (hm : Mut (H l)) (hx : ∀ q, H l ≠ some (LamX.CodeO l q)) (hd : ∀ (i : Nat) (s : Slot) (v : V), δ[i]? = some (some s) → σ[i]? = some (some v) → SlotOk CS A B H s v → SlotOk CS (fun a => A a ∨ a = l) B H s v) :
    SR CS (fun a => A a ∨ a = l) B σ H δ := by
  refine ⟨r.len, fun a h => ?_, fun i s e => ?_, r.sep, ⟨r.tabs.tb, fun hB c q hc hu => ?_⟩⟩
  · rcases h with ((h | h) | h) | h
    · exact r.muts a (.inl (.inl h))
    · rw [h]; exact hm
    · exact r.muts a (.inl (.inr h))
    · exact r.muts a (.inr h)
  · obtain ⟨v, h1, h2⟩ := r.sl i s e
    exact ⟨v, h1, hd i s v e h1 h2⟩
  · rcases hu with ((z | z) | z) | z
    · exact r.tabs.nc hB c q hc (.inl (.inl z))
    · rw [z] at hc; exact hx q hc
    · exact r.tabs.nc hB c q hc (.inl (.inr z))
    · exact r.tabs.nc hB c q hc (.inr z)
end K06
/-! K1: what an expression gives, by stores: the judgements, constants, names, operators. -/
namespace K06
open PySem PySem.Spec L2

/-- a value: data; data none of whose lists stood before; the thing of a slot -/
inductive Res where
  | d (x : D) | n (x : D) | m (l : Addr)

def RR (CS : Addr) (A : AP1) (B : Bo) (H H' : Hp) : Res → V → Prop
  | .d x, v => Rep CS H' (Un2 A B) x v
  | .n x, v => Rep CS H' (fun a => H a ≠ none) x v
  | .m l, v => v = .ref l

/-- the names of the module that hide no built-in -/
structure Glb (mg : Str → Option Value) : Prop where
  len : mg "len" = none
  range : mg "range" = none
  tuple : mg "tuple" = none
  list : mg "list" = none
  sorted : mg "sorted" = none
  set : mg "set" = none
  sum : mg "sum" = none
  min : mg "min" = none
  max : mg "max" = none
  all : mg "all" = none
  abs : mg "abs" = none
  int : mg "int" = none
  bool : mg "bool" = none
  str : mg "str" = none
  isinstance : mg "isinstance" = none
  enumerate : mg "enumerate" = none

/-- what is known of a body's context: its names by slot, which may be read, stored; its global names -/
structure Ctx (X : Cx) (sc : Scope) (N : List Str) (vs ls : List Nat) (gs : List Str) : Prop where
  hN : X.N = N
  hsc : X.env.scope = sc
  nd : N.Nodup
  vis : ∀ (i : Nat) (x : Str), vs.contains i = true → N[i]? = some x → Vis X.env.scope x ∧ (x == ("__debug__" : Str)) = false ∧ (x == ("__classdict__" : Str)) = false
  loc : ∀ (i : Nat) (x : Str), ls.contains i = true → N[i]? = some x → Loc X.env.scope x ∧ (X.fn x = true ∨ X.env.scope.names.lookup x = some .local)
  gl : ∀ (j : Nat) (x : Str), gs[j]? = some x → Gl X x ∧ (x == ("__debug__" : Str)) = false
  calm : X.calm = true
  glb : Glb X.mg
  po : PassesOwn (model X.prog X.w) X.A X.env X.xe

variable {X : Cx} {CS : Addr} {sc : Scope} {N : List Str} {vs ls : List Nat} {gs : List Str}

theorem lt_of {k n : Nat} (h : Nat.ble (k + 1) n = true) : k < n := Nat.le_of_ble_eq_true h
/-! ### the judgements -/
def tE (CS : Addr) (δ : Sto) (r : Res) (δ' : Sto) : TE := fun σ H Q => ∃ A B, SR CS A B σ H δ ∧ ∀ v H', Ext A B H A H' → SR CS A B σ H' δ' → RR CS A B H H' r v → Q v H'
def tT (CS : Addr) (δ : Sto) (b : Bool) (δ' : Sto) : TT := fun σ H Q => ∃ A B, SR CS A B σ H δ ∧ ∀ H', Ext A B H A H' → SR CS A B σ H' δ' → Q b H'
def RRs (CS : Addr) (A : AP1) (B : Bo) (H H' : Hp) : List Res → List V → Prop
  | [], vs => vs = []
  | r :: rs, vs => ∃ v w, vs = v :: w ∧ RR CS A B H H' r v ∧ RRs CS A B H H' rs w
def tA (CS : Addr) (δ : Sto) (rs : List Res) (δ' : Sto) : TA := fun σ H Q => ∃ A B, SR CS A B σ H δ ∧ ∀ vs H', Ext A B H A H' → SR CS A B σ H' δ' → RRs CS A B H H' rs vs → Q vs H'
abbrev XE (X : Cx) (CS : Addr) (e : Expr) (δ : Sto) (r : Res) (δ' : Sto) : Prop := PE X e (tE CS δ r δ')
abbrev XT (X : Cx) (CS : Addr) (e : Expr) (δ : Sto) (b : Bool) (δ' : Sto) : Prop := PT X e (tT CS δ b δ')
abbrev XW (X : Cx) (CS : Addr) (e : Expr) (δ : Sto) (b : Bool) (δ' : Sto) : Prop := PW X e (tT CS δ b δ')
abbrev XA (X : Cx) (CS : Addr) (es : List Expr) (δ : Sto) (rs : List Res) (δ' : Sto) : Prop := PA X es (tA CS δ rs δ')

theorem pe_weak {e : Expr} {t t' : TE} (h : PE X e t) (w : ∀ σ H Q, t' σ H Q → t σ H Q) : PE X e t' := ⟨fun pins s σ H Q I q => h.run pins s σ H Q I (w σ H Q q)⟩
theorem pt_weak {e : Expr} {t t' : TT} (h : PT X e t) (w : ∀ σ H Q, t' σ H Q → t σ H Q) : PT X e t' := ⟨fun pins s σ H Q I q => h.run pins s σ H Q I (w σ H Q q)⟩
theorem pw_weak {e : Expr} {t t' : TT} (h : PW X e t) (w : ∀ σ H Q, t' σ H Q → t σ H Q) : PW X e t' := ⟨fun wh pins s σ H Q I q => h.run wh pins s σ H Q I (w σ H Q q)⟩
theorem pa_weak {es : List Expr} {t t' : TA} (h : PA X es t) (w : ∀ σ H Q, t' σ H Q → t σ H Q) : PA X es t' := ⟨fun pos pins s σ H Q I q => h.run pos pins s σ H Q I (w σ H Q q)⟩

section
variable {A : AP1} {B : Bo} {H H1 H2 : Hp} {σ : L2.St} {δ δ1 δ2 δ3 : Sto} {r : Res} {v : V}
/-- a value stays what it is behind a later step -/
theorem RR.step (s : SR CS A B σ H δ) (e : Ext A B H1 A H2) (h : RR CS A B H H1 r v) : RR CS A B H H2 r v := by
  cases r with
  | d x => exact e.rep h
  | n x =>
    refine Rep.stay ⟨e.tup, fun a o n t q => e.out' a o (fun z => ?_) (.inr t) q⟩ x v h
    exact n (s.tracked (.inl z))
  | m l => exact h
/-- seen from an earlier heap -/
theorem RR.back (e : Ext A B H A H1) (h : RR CS A B H1 H2 r v) : RR CS A B H H2 r v := by
  cases r with
  | d x => exact h
  | n x => exact Rep.anti (fun a z => e.there a z) x v h
  | m l => exact h
theorem RR.toD {x : D} (s : SR CS A B σ H δ) (h : RR CS A B H H1 (.n x) v) : RR CS A B H H1 (.d x) v := Rep.anti (fun a z => s.tracked z) x v h
theorem RRs.step (s : SR CS A B σ H δ) (e : Ext A B H1 A H2) : ∀ {rs : List Res} {vs : List V}, RRs CS A B H H1 rs vs → RRs CS A B H H2 rs vs
  | [], vs, h => h
  | r :: rs, vs, h => by
    obtain ⟨v, w, e1, h1, h2⟩ := h
    exact ⟨v, w, e1, h1.step s e, RRs.step s e h2⟩
theorem RRs.back (e : Ext A B H A H1) : ∀ {rs : List Res} {vs : List V}, RRs CS A B H1 H2 rs vs → RRs CS A B H H2 rs vs
  | [], vs, h => h
  | r :: rs, vs, h => by
    obtain ⟨v, w, e1, h1, h2⟩ := h
    exact ⟨v, w, e1, h1.back e, RRs.back e h2⟩

/-- the items of what is a list, a tuple -/
def LstC (δ : Sto) : Res → List D → Prop
  | .d (.lst ds'), ds => ds' = ds
  | .n (.lst ds'), ds => ds' = ds
  | .m l, ds => ∃ i : Nat, δ[i]? = some (some (Slot.ml l ds))
  | _, _ => False
def TupC : Res → List D → Prop
  | .d (.tup ds'), ds => ds' = ds
  | .n (.tup ds'), ds => ds' = ds
  | _, _ => False
theorem LstC.at {ds : List D} (c : LstC δ1 r ds) (s : SR CS A B σ H δ) (s1 : SR CS A B σ H1 δ1) (h : RR CS A B H H1 r v) : ∃ a vs, v = .ref a ∧ H1 a = some (.lst vs) ∧ Reps CS H1 (Un2 A B) ds vs := by
  cases r with
  | d x =>
    cases x with
    | lst ds' =>
      have e : ds' = ds := c
      subst e
      obtain ⟨a, vs, e, _, h1, h2⟩ := h
      exact ⟨a, vs, e, h1, h2⟩
    | _ => exact c.elim
  | n x =>
    cases x with
    | lst ds' =>
      have e : ds' = ds := c
      subst e
      obtain ⟨a, vs, e, _, h1, h2⟩ := RR.toD s h
      exact ⟨a, vs, e, h1, h2⟩
    | _ => exact c.elim
  | m l =>
    obtain ⟨i, e⟩ := c
    obtain ⟨w, e1, e2, _, _, vs, h1, h2⟩ := s1.sl i _ e
    exact ⟨l, vs, h, h1, h2⟩
theorem TupC.at {ds : List D} (c : TupC r ds) (s : SR CS A B σ H δ) (h : RR CS A B H H1 r v) : ∃ a vs, v = .ref a ∧ H1 a = some (.tup vs) ∧ Reps CS H1 (Un2 A B) ds vs := by
  cases r with
  | d x =>
    cases x with
    | tup ds' =>
      have e : ds' = ds := c
      subst e
      exact h
    | _ => exact c.elim
  | n x =>
    cases x with
    | tup ds' =>
      have e : ds' = ds := c
      subst e
      exact RR.toD s h
    | _ => exact c.elim
  | m l => exact c.elim
end

section
variable {a b c e : Expr} {pos : Pos} {δ δ1 δ2 δ3 : Sto} {x y z : D} {r r' : Res}
/-! ### from new data to data -/
theorem xn (h : XE X CS e δ (.n x) δ1) : XE X CS e δ (.d x) δ1 := pe_weak h fun σ H Q ⟨A, B, s, k⟩ => ⟨A, B, s, fun v H' e s' q => k v H' e s' (RR.toD s q)⟩
/-! ### constants, names -/
theorem same_sr {A : AP1} {B : Bo} {σ : L2.St} {H H' : Hp} (s : SR CS A B σ H δ) (e : Same H H') : Ext A B H A H' ∧ SR CS A B σ H' δ := ⟨Same.ext e, s.same e⟩
theorem xe_c {v : V} (h : PE X e (tC v)) (hr : ∀ H A, Rep CS H A x v) : XE X CS e δ (.d x) δ := pe_weak h fun σ H Q ⟨A, B, s, k⟩ => k v H Ext.refl s (hr H _)
theorem xe_int {i : Int} {j pos} : XE X CS (.Constant (.int i) j pos) δ (.d (.int i)) δ := xe_c pe_int fun _ _ => rfl
theorem xe_bl {i : Bool} {j pos} : XE X CS (.Constant (.bool i) j pos) δ (.d (.bl i)) δ := xe_c pe_bl fun _ _ => rfl
theorem xe_non {j pos} : XE X CS (.Constant .none j pos) δ (.d .non) δ := xe_c pe_non fun _ _ => rfl
theorem xe_str {i : Str} {j pos} : XE X CS (.Constant (.str i) j pos) δ (.d (.str i)) δ := xe_c pe_str fun _ _ => rfl
/-- a name's data -/
theorem xe_v (C : Ctx X sc N vs ls gs) (i : Nat) {nm : Str} (hi : N[i]? = some nm) (hv : vs.contains i = true) (hs : δ[i]? = some (some (.im x))) : XE X CS (.Name nm pos) δ (.d x) δ := by
  obtain ⟨h1, h2, h3⟩ := C.vis i nm hv hi
  refine pe_weak (pe_var (i := i) (by rw [C.hN]; exact hi) h1 h2 h3) fun σ H Q ⟨A, B, s, k⟩ => ?_
  obtain ⟨v, e1, e2⟩ := s.sl i _ hs
  exact ⟨v, e1, k v H Ext.refl s e2⟩
/-- a name's list, dict, hand -/
theorem xe_m (C : Ctx X sc N vs ls gs) (i : Nat) {nm : Str} {t : Slot} {l : Addr} (hi : N[i]? = some nm) (hv : vs.contains i = true) (hs : δ[i]? = some (some t)) (ha : t.addr = some l) : XE X CS (.Name nm pos) δ (.m l) δ := by
  obtain ⟨h1, h2, h3⟩ := C.vis i nm hv hi
  refine pe_weak (pe_var (i := i) (by rw [C.hN]; exact hi) h1 h2 h3) fun σ H Q ⟨A, B, s, k⟩ => ?_
  obtain ⟨v, e1, e2⟩ := s.sl i _ hs
  refine ⟨v, e1, k v H Ext.refl s ?_⟩
  cases t with
  | im d => cases ha
  | ml p ds =>
    cases ha
    exact e2.1
  | md p ds =>
    cases ha
    exact e2.1
  | hd p c g =>
    cases ha
    exact e2.1
  | ob p fs =>
    cases ha
    exact e2.1
  | ex p ks Φ =>
    cases ha
    exact e2.1
  | tb ts => cases ha
/-- a global name's value -/
theorem xe_g (C : Ctx X sc N vs ls gs) (j : Nat) {nm : Str} {v : V} {u : Value} (hj : gs[j]? = some nm) (hm : X.mg nm = some u) (hr : RelV v u) (hd : ∀ H A, Rep CS H A x v) : XE X CS (.Name nm pos) δ (.d x) δ := by
  obtain ⟨h1, h2⟩ := C.gl j nm hj
  exact xe_c (pe_glob h1 hm hr h2) hd

/-! ### operators: two operands, then an operation on their values that leaves the store -/
/-- the operation's own question, answered from what is known of both -/
def OpD (CS : Addr) (ρ : R2) (δ : Sto) (r1 r2 r : Res) : Prop := ∀ (A : AP1) (B : Bo) (σ : L2.St) (H0 H : Hp) (v u : V) (Q : VK), SR CS A B σ H δ → (∀ a, Un2 A B a → H0 a ≠ none) → RR CS A B H0 H r1 v → RR CS A B H0 H r2 u →
  (∀ w H', Same H H' → RR CS A B H H' r w → Q w H') → ρ v u H Q
theorem tOp_of {ρ : R2} {ta tb : TE} {r1 r2 : Res} (hr : OpD CS ρ δ2 r1 r2 r) (σ : L2.St) (H : Hp) (Q : VK) (h : tE CS δ r δ2 σ H Q)
    (ha : ∀ Q', (∃ A B, SR CS A B σ H δ ∧ ∀ v H', Ext A B H A H' → SR CS A B σ H' δ1 → RR CS A B H H' r1 v → Q' v H') → ta σ H Q')
    (hb : ∀ H1 Q', (∃ A B, SR CS A B σ H1 δ1 ∧ ∀ v H', Ext A B H1 A H' → SR CS A B σ H' δ2 → RR CS A B H1 H' r2 v → Q' v H') → tb σ H1 Q') : tOp ρ ta tb σ H Q := by
  obtain ⟨A, B, s, k⟩ := h
  refine ha _ ⟨A, B, s, fun v H1 e1 s1 q1 => hb H1 _ ⟨A, B, s1, fun u H2 e2 s2 q2 => ?_⟩⟩
  refine hr A B σ H H2 v u Q s2 (fun a z => s.tracked z) (q1.step s e2) (q2.back e1) fun w H3 sm q3 => ?_
  exact k w H3 ((e1.trans e2).trans (Same.ext sm)) (s2.same sm) (q3.back (e1.trans e2))
theorem xe_op {op : Operator} {ρ : R2} {r1 r2 : Res} (ho : OpR X (binaryOp op) ρ) (ha : XE X CS a δ r1 δ1) (hb : XE X CS b δ1 r2 δ2) (hr : OpD CS ρ δ2 r1 r2 r) : XE X CS (.BinOp a op b pos) δ r δ2 :=
  pe_weak (pe_op ho ha hb) fun σ H Q h => tOp_of hr σ H Q h (fun _ q => q) fun _ _ q => q
theorem xe_cmp {op : CmpOp} {ρ : R2} {r1 r2 : Res} (ho : OpR X (compareOp op) ρ) (ha : XE X CS a δ r1 δ1) (hb : XE X CS b δ1 r2 δ2) (hr : OpD CS ρ δ2 r1 r2 r) (hm : behindInMarks op b = false) : XE X CS (.Compare a [op] [b] pos) δ r δ2 :=
  pe_weak (pe_cmpR ho ha hb hm) fun σ H Q h => tOp_of hr σ H Q h (fun _ q => q) fun _ _ q => q
theorem xt_cmp {op : CmpOp} {ρ : R2} {r1 r2 : Res} {k : Bool} (ho : OpR X (compareOp op) ρ) (ha : XE X CS a δ r1 δ1) (hb : XE X CS b δ1 r2 δ2) (hr : OpD CS ρ δ2 r1 r2 (.d (.bl k))) (hm : behindInMarks op b = false) : XT X CS (.Compare a [op] [b] pos) δ k δ2 :=
  pt_weak (pt_cmpR ho ha hb hm) fun σ H Q ⟨A, B, s, q⟩ => by
    refine tOp_of (r := .d (.bl k)) hr σ H _ ⟨A, B, s, fun w H' e s' p => ?_⟩ (fun _ q => q) fun _ _ q => q
    exact ⟨k, p, q H' e s'⟩
/-- an expression whose value is a bool, as a test -/
theorem xt_v {k : Bool} (h : XE X CS e δ (.d (.bl k)) δ1) (he : ∀ whole, isTrue e X.env whole = (do let v ← whole; standAt e.pos; holding [v] (truthy v)) := by intro _; rfl) : XT X CS e δ k δ1 :=
  pt_weak (pt_val h he) fun σ H Q ⟨A, B, s, q⟩ => ⟨A, B, s, fun w H' e s' p => ⟨k, p, q H' e s'⟩⟩

/-! ints -/
theorem opd_I0 {g : Int → Int → V} {i j : Int} (hz : ∀ H A, Rep CS H A z (g i j)) : OpD CS (rI0 g) δ (.d (.int i)) (.d (.int j)) (.d z) := fun A B σ H0 H v u Q s t h1 h2 k =>
  ⟨i, j, h1, h2, k _ H (Same.refl H) (hz H _)⟩
theorem opd_I {Cn : Int → Int → Prop} {g : Int → Int → V} {i j : Int} (hc : Cn i j) (hz : ∀ H A, Rep CS H A z (g i j)) : OpD CS (rI Cn g) δ (.d (.int i)) (.d (.int j)) (.d z) := fun A B σ H0 H v u Q s t h1 h2 k =>
  ⟨i, j, h1, h2, hc, k _ H (Same.refl H) (hz H _)⟩
variable {i j : Int}
theorem xe_add (ha : XE X CS a δ (.d (.int i)) δ1) (hb : XE X CS b δ1 (.d (.int j)) δ2) : XE X CS (.BinOp a .Add b pos) δ (.d (.int (i + j))) δ2 := xe_op op_add ha hb (opd_I0 fun _ _ => rfl)
theorem xe_sub (ha : XE X CS a δ (.d (.int i)) δ1) (hb : XE X CS b δ1 (.d (.int j)) δ2) : XE X CS (.BinOp a .Sub b pos) δ (.d (.int (i - j))) δ2 := xe_op op_sub ha hb (opd_I0 fun _ _ => rfl)
theorem xe_mul (ha : XE X CS a δ (.d (.int i)) δ1) (hb : XE X CS b δ1 (.d (.int j)) δ2) (hc : CMul i j) : XE X CS (.BinOp a .Mult b pos) δ (.d (.int (i * j))) δ2 := xe_op op_mul ha hb (opd_I hc fun _ _ => rfl)
theorem xe_fdiv (ha : XE X CS a δ (.d (.int i)) δ1) (hb : XE X CS b δ1 (.d (.int j)) δ2) (hc : CDiv i j) : XE X CS (.BinOp a .FloorDiv b pos) δ (.d (.int (i / j))) δ2 := xe_op op_fdiv ha hb (opd_I hc fun _ _ => rfl)
theorem xe_mod (ha : XE X CS a δ (.d (.int i)) δ1) (hb : XE X CS b δ1 (.d (.int j)) δ2) (hc : 0 < j) : XE X CS (.BinOp a .Mod b pos) δ (.d (.int (i % j))) δ2 := xe_op op_mod ha hb (opd_I hc fun _ _ => rfl)
theorem xe_pow (ha : XE X CS a δ (.d (.int i)) δ1) (hb : XE X CS b δ1 (.d (.int j)) δ2) (hc : CPow i j) : XE X CS (.BinOp a .Pow b pos) δ (.d (.int (i ^ j.toNat))) δ2 := xe_op op_pow ha hb (opd_I hc fun _ _ => rfl)
theorem opd_neg {g : Int → V} {ρ : TE} : True := trivial
theorem xe_neg (ha : XE X CS a δ (.d (.int i)) δ1) : XE X CS (.UnaryOp .USub a pos) δ (.d (.int (-i))) δ1 :=
  pe_weak (pe_un un_neg ha) fun σ H Q ⟨A, B, s, k⟩ => ⟨A, B, s, fun v H1 e1 s1 q1 => ⟨i, q1, k _ H1 e1 s1 rfl⟩⟩
/-! comparisons: values and tests -/
theorem opd_eqI : OpD CS rEq δ (.d (.int i)) (.d (.int j)) (.d (.bl (decide (i = j)))) := fun A B σ H0 H v u Q s t h1 h2 k => by
  have e1 : v = .int i := h1
  have e2 : u = .int j := h2
  subst e1; subst e2
  refine ⟨rfl, ?_⟩
  refine k _ H (Same.refl H) ?_
  show V.bl _ = V.bl _
  congr 1
  by_cases e : i = j
  · rw [e]; simp
  · simp [e]
theorem opd_neI : OpD CS rNe δ (.d (.int i)) (.d (.int j)) (.d (.bl (!decide (i = j)))) := fun A B σ H0 H v u Q s t h1 h2 k => by
  have e1 : v = .int i := h1
  have e2 : u = .int j := h2
  subst e1; subst e2
  refine ⟨rfl, ?_⟩
  refine k _ H (Same.refl H) ?_
  show V.bl _ = V.bl _
  congr 2
  by_cases e : i = j
  · rw [e]; simp
  · simp [e]
variable {p q : Bool} {t u : Str}
theorem opd_eqS : OpD CS rEq δ (.d (.str t)) (.d (.str u)) (.d (.bl (decide (t = u)))) := fun A B σ H0 H v w Q s _ h1 h2 k => by
  have e1 : v = .str t := h1
  have e2 : w = .str u := h2
  subst e1; subst e2
  refine ⟨rfl, ?_⟩
  refine k _ H (Same.refl H) ?_
  show V.bl _ = V.bl _
  congr 1
  by_cases e : t = u
  · rw [e]; simp
  · simp [e]
theorem opd_neS : OpD CS rNe δ (.d (.str t)) (.d (.str u)) (.d (.bl (!decide (t = u)))) := fun A B σ H0 H v w Q s _ h1 h2 k => by
  have e1 : v = .str t := h1
  have e2 : w = .str u := h2
  subst e1; subst e2
  refine ⟨rfl, ?_⟩
  refine k _ H (Same.refl H) ?_
  show V.bl _ = V.bl _
  congr 2
  by_cases e : t = u
  · rw [e]; simp
  · simp [e]
theorem opd_eqB : OpD CS rEq δ (.d (.bl p)) (.d (.bl q)) (.d (.bl (p == q))) := fun A B σ H0 H v w Q s _ h1 h2 k => by
  have e1 : v = .bl p := h1
  have e2 : w = .bl q := h2
  subst e1; subst e2
  refine ⟨rfl, ?_⟩
  refine k _ H (Same.refl H) ?_
  show V.bl _ = V.bl _
  congr 1
  cases p <;> cases q <;> rfl
theorem opd_neB : OpD CS rNe δ (.d (.bl p)) (.d (.bl q)) (.d (.bl (p != q))) := fun A B σ H0 H v w Q s _ h1 h2 k => by
  have e1 : v = .bl p := h1
  have e2 : w = .bl q := h2
  subst e1; subst e2
  refine ⟨rfl, ?_⟩
  refine k _ H (Same.refl H) ?_
  show V.bl _ = V.bl _
  congr 1
  cases p <;> cases q <;> rfl
theorem xe_eq (ha : XE X CS a δ (.d x) δ1) (hb : XE X CS b δ1 (.d y) δ2) (ho : OpD CS rEq δ2 (.d x) (.d y) (.d (.bl p))) : XE X CS (.Compare a [.Eq] [b] pos) δ (.d (.bl p)) δ2 := xe_cmp op_eq ha hb ho (nomark _)
theorem xt_eq (ha : XE X CS a δ (.d x) δ1) (hb : XE X CS b δ1 (.d y) δ2) (ho : OpD CS rEq δ2 (.d x) (.d y) (.d (.bl p))) : XT X CS (.Compare a [.Eq] [b] pos) δ p δ2 := xt_cmp op_eq ha hb ho (nomark _)
theorem xe_ne (ha : XE X CS a δ (.d x) δ1) (hb : XE X CS b δ1 (.d y) δ2) (ho : OpD CS rNe δ2 (.d x) (.d y) (.d (.bl p))) : XE X CS (.Compare a [.NotEq] [b] pos) δ (.d (.bl p)) δ2 := xe_cmp op_ne ha hb ho (nomark _)
theorem xt_ne (ha : XE X CS a δ (.d x) δ1) (hb : XE X CS b δ1 (.d y) δ2) (ho : OpD CS rNe δ2 (.d x) (.d y) (.d (.bl p))) : XT X CS (.Compare a [.NotEq] [b] pos) δ p δ2 := xt_cmp op_ne ha hb ho (nomark _)
theorem xe_lt (ha : XE X CS a δ (.d (.int i)) δ1) (hb : XE X CS b δ1 (.d (.int j)) δ2) : XE X CS (.Compare a [.Lt] [b] pos) δ (.d (.bl (decide (i < j)))) δ2 := xe_cmp op_lt ha hb (opd_I0 fun _ _ => rfl) (nomark _)
theorem xe_le (ha : XE X CS a δ (.d (.int i)) δ1) (hb : XE X CS b δ1 (.d (.int j)) δ2) : XE X CS (.Compare a [.LtE] [b] pos) δ (.d (.bl (decide (i ≤ j)))) δ2 := xe_cmp op_le ha hb (opd_I0 fun _ _ => rfl) (nomark _)
theorem xe_gt (ha : XE X CS a δ (.d (.int i)) δ1) (hb : XE X CS b δ1 (.d (.int j)) δ2) : XE X CS (.Compare a [.Gt] [b] pos) δ (.d (.bl (decide (j < i)))) δ2 := xe_cmp op_gt ha hb (opd_I0 fun _ _ => rfl) (nomark _)
theorem xe_ge (ha : XE X CS a δ (.d (.int i)) δ1) (hb : XE X CS b δ1 (.d (.int j)) δ2) : XE X CS (.Compare a [.GtE] [b] pos) δ (.d (.bl (decide (j ≤ i)))) δ2 := xe_cmp op_ge ha hb (opd_I0 fun _ _ => rfl) (nomark _)
theorem xt_lt (ha : XE X CS a δ (.d (.int i)) δ1) (hb : XE X CS b δ1 (.d (.int j)) δ2) : XT X CS (.Compare a [.Lt] [b] pos) δ (decide (i < j)) δ2 := xt_cmp op_lt ha hb (opd_I0 fun _ _ => rfl) (nomark _)
theorem xt_le (ha : XE X CS a δ (.d (.int i)) δ1) (hb : XE X CS b δ1 (.d (.int j)) δ2) : XT X CS (.Compare a [.LtE] [b] pos) δ (decide (i ≤ j)) δ2 := xt_cmp op_le ha hb (opd_I0 fun _ _ => rfl) (nomark _)
theorem xt_gt (ha : XE X CS a δ (.d (.int i)) δ1) (hb : XE X CS b δ1 (.d (.int j)) δ2) : XT X CS (.Compare a [.Gt] [b] pos) δ (decide (j < i)) δ2 := xt_cmp op_gt ha hb (opd_I0 fun _ _ => rfl) (nomark _)
theorem xt_ge (ha : XE X CS a δ (.d (.int i)) δ1) (hb : XE X CS b δ1 (.d (.int j)) δ2) : XT X CS (.Compare a [.GtE] [b] pos) δ (decide (j ≤ i)) δ2 := xt_cmp op_ge ha hb (opd_I0 fun _ _ => rfl) (nomark _)
/-- a <= b <= c -/
theorem xe_lele {k : Int} (ha : XE X CS a δ (.d (.int i)) δ1) (hb : XE X CS b δ1 (.d (.int j)) δ2) (hc : XE X CS c δ2 (.d (.int k)) δ2) (hm : lastMarks [CmpOp.LtE, CmpOp.LtE] [b, c] = false := by with_unfolding_all rfl) :
    XE X CS (.Compare a [.LtE, .LtE] [b, c] pos) δ (.d (.bl (decide (i ≤ j) && decide (j ≤ k)))) δ2 :=
  pe_weak (pe_chain op_le op_le ha hb hc hm) fun σ H Q ⟨A, B, s, kk⟩ => by
    refine ⟨A, B, s, fun v H1 e1 s1 q1 => ⟨A, B, s1, fun u H2 e2 s2 q2 => ⟨i, j, q1, q2, decide (i ≤ j), rfl, ?_⟩⟩⟩
    have q2' : u = .int j := q2
    by_cases hij : i ≤ j
    · have ed : decide (i ≤ j) = true := decide_eq_true hij
      rw [ed]
      refine iteT ⟨A, B, s2, fun w H3 e3 s3 q3 => ⟨j, k, q2', q3, ?_⟩⟩
      refine kk _ H3 ((e1.trans e2).trans e3) s3 ?_
      rw [ed, Bool.true_and]
      exact rfl
    · have ed : decide (i ≤ j) = false := decide_eq_false hij
      rw [ed]
      refine iteF (kk _ H2 (e1.trans e2) s2 ?_)
      rw [ed, Bool.false_and]
      exact rfl
/-- is None -/
def D.isNon : D → Bool
  | .non => true
  | _ => false
theorem rep_isNon {H : Hp} {A : AP1} {v : V} (h : Rep CS H A x v) : decide (v = .non) = x.isNon := by
  cases x with
  | non =>
    have e : v = .non := h
    rw [e]
    rfl
  | bl b =>
    have e : v = .bl b := h
    rw [e]
    rfl
  | int b =>
    have e : v = .int b := h
    rw [e]
    rfl
  | str b =>
    have e : v = .str b := h
    rw [e]
    rfl
  | tup ds =>
    obtain ⟨a, vs, e, _⟩ := h
    rw [e]
    rfl
  | lst ds =>
    obtain ⟨a, vs, e, _⟩ := h
    rw [e]
    rfl
  | std c h' ds =>
    obtain ⟨a, dx, t, vs, e, _⟩ := h
    rw [e]
    rfl
  | adr a =>
    have e : v = .ref a := h
    rw [e]
    rfl
  | ty a =>
    have e : v = .ty a := h
    rw [e]
    rfl
  | obj f c oc =>
    obtain ⟨e, _⟩ := h
    rw [e]
    rfl
theorem xe_isN {j' pos'} (ha : XE X CS a δ (.d x) δ1) : XE X CS (.Compare a [.Is] [.Constant .none j' pos'] pos) δ (.d (.bl x.isNon)) δ1 :=
  pe_weak (pe_cmp (pc_isN ha) rfl) fun σ H Q ⟨A, B, s, k⟩ => ⟨A, B, s, fun v H1 e1 s1 q1 => k _ H1 e1 s1 (by rw [rep_isNon q1]; exact rfl)⟩
theorem xe_notN {j' pos'} (ha : XE X CS a δ (.d x) δ1) : XE X CS (.Compare a [.IsNot] [.Constant .none j' pos'] pos) δ (.d (.bl (!x.isNon))) δ1 :=
  pe_weak (pe_cmp (pc_notN ha) rfl) fun σ H Q ⟨A, B, s, k⟩ => ⟨A, B, s, fun v H1 e1 s1 q1 => k _ H1 e1 s1 (by rw [rep_isNon q1]; exact rfl)⟩
theorem xt_isN {j' pos'} (ha : XE X CS a δ (.d x) δ1) : XT X CS (.Compare a [.Is] [.Constant .none j' pos'] pos) δ x.isNon δ1 :=
  pt_weak (pt_cmp (pc_isN ha) rfl) fun σ H Q ⟨A, B, s, k⟩ => ⟨A, B, s, fun v H1 e1 s1 q1 => ⟨_, by rw [rep_isNon q1], k H1 e1 s1⟩⟩
theorem xt_notN {j' pos'} (ha : XE X CS a δ (.d x) δ1) : XT X CS (.Compare a [.IsNot] [.Constant .none j' pos'] pos) δ (!x.isNon) δ1 :=
  pt_weak (pt_cmp (pc_notN ha) rfl) fun σ H Q ⟨A, B, s, k⟩ => ⟨A, B, s, fun v H1 e1 s1 q1 => ⟨_, by rw [rep_isNon q1], k H1 e1 s1⟩⟩

/-! ### not, and, or: values -/
variable {rest : List Expr}
theorem xe_not (ha : XE X CS a δ (.d (.bl p)) δ1) : XE X CS (.UnaryOp .Not a pos) δ (.d (.bl (!p))) δ1 :=
  pe_weak (pe_not ha) fun σ H Q ⟨A, B, s, k⟩ => ⟨A, B, s, fun v H1 e1 s1 q1 => ⟨p, q1, k _ H1 e1 s1 rfl⟩⟩
theorem xe_one {op} (h : XE X CS a δ r δ1) : XE X CS (.BoolOp op [a] pos) δ r δ1 := pe_one h
theorem xe_and (ha : XE X CS a δ (.d (.bl p)) δ1) (hb : p = true → XE X CS (.BoolOp .And (b :: rest) pos) δ1 (.d (.bl q)) δ2) (hf : p = false → q = false ∧ δ1 = δ2) : XE X CS (.BoolOp .And (a :: b :: rest) pos) δ (.d (.bl q)) δ2 := by
  cases p with
  | true =>
    refine pe_weak (pe_and ha (hb rfl)) fun σ H Q ⟨A, B, s, k⟩ => ⟨A, B, s, fun v H1 e1 s1 q1 => ⟨true, q1, iteT ⟨A, B, s1, fun w H2 e2 s2 q2 => k w H2 (e1.trans e2) s2 (q2.back e1)⟩⟩⟩
  | false =>
    obtain ⟨rfl, rfl⟩ := hf rfl
    exact pe_weak (pe_and (b := b) (rest := rest) (tb := fun _ _ _ => False) ha ⟨fun _ _ _ _ _ _ z => z.elim⟩) fun σ H Q ⟨A, B, s, k⟩ => ⟨A, B, s, fun v H1 e1 s1 q1 => ⟨false, q1, iteF (k _ H1 e1 s1 rfl)⟩⟩
theorem xe_or (ha : XE X CS a δ (.d (.bl p)) δ1) (hb : p = false → XE X CS (.BoolOp .Or (b :: rest) pos) δ1 (.d (.bl q)) δ2) (hf : p = true → q = true ∧ δ1 = δ2) : XE X CS (.BoolOp .Or (a :: b :: rest) pos) δ (.d (.bl q)) δ2 := by
  cases p with
  | false =>
    refine pe_weak (pe_or ha (hb rfl)) fun σ H Q ⟨A, B, s, k⟩ => ⟨A, B, s, fun v H1 e1 s1 q1 => ⟨false, q1, iteF ⟨A, B, s1, fun w H2 e2 s2 q2 => k w H2 (e1.trans e2) s2 (q2.back e1)⟩⟩⟩
  | true =>
    obtain ⟨rfl, rfl⟩ := hf rfl
    exact pe_weak (pe_or (b := b) (rest := rest) (tb := fun _ _ _ => False) ha ⟨fun _ _ _ _ _ _ z => z.elim⟩) fun σ H Q ⟨A, B, s, k⟩ => ⟨A, B, s, fun v H1 e1 s1 q1 => ⟨true, q1, iteT (k _ H1 e1 s1 rfl)⟩⟩
/-! .. tests -/
theorem xt_not (ha : XT X CS a δ p δ1) : XT X CS (.UnaryOp .Not a pos) δ (!p) δ1 :=
  pt_weak (pt_not ha) fun σ H Q ⟨A, B, s, k⟩ => ⟨A, B, s, fun H1 e1 s1 => k H1 e1 s1⟩
theorem xw (h : XW X CS e δ p δ1) : XT X CS e δ p δ1 := PW.pt h
theorem xw_and1 (ha : XT X CS a δ p δ1) : XW X CS (.BoolOp .And [a] pos) δ p δ1 := pw_and1 ha
theorem xw_or1 (ha : XT X CS a δ p δ1) : XW X CS (.BoolOp .Or [a] pos) δ p δ1 := pw_or1 ha
theorem xw_and (ha : XT X CS a δ p δ1) (hb : p = true → XW X CS (.BoolOp .And (b :: rest) pos) δ1 q δ2) (hf : p = false → q = false ∧ δ1 = δ2) : XW X CS (.BoolOp .And (a :: b :: rest) pos) δ q δ2 := by
  cases p with
  | true =>
    refine pw_weak (pw_and ha (hb rfl)) fun σ H Q ⟨A, B, s, k⟩ => ⟨A, B, s, fun H1 e1 s1 => iteT ⟨A, B, s1, fun H2 e2 s2 => k H2 (e1.trans e2) s2⟩⟩
  | false =>
    obtain ⟨rfl, rfl⟩ := hf rfl
    exact pw_weak (pw_and (b := b) (rest := rest) (tB' := fun _ _ _ => False) ha ⟨fun _ _ _ _ _ _ _ z => z.elim⟩) fun σ H Q ⟨A, B, s, k⟩ => ⟨A, B, s, fun H1 e1 s1 => iteF (k H1 e1 s1)⟩
theorem xw_or (ha : XT X CS a δ p δ1) (hb : p = false → XW X CS (.BoolOp .Or (b :: rest) pos) δ1 q δ2) (hf : p = true → q = true ∧ δ1 = δ2) : XW X CS (.BoolOp .Or (a :: b :: rest) pos) δ q δ2 := by
  cases p with
  | false =>
    refine pw_weak (pw_or ha (hb rfl)) fun σ H Q ⟨A, B, s, k⟩ => ⟨A, B, s, fun H1 e1 s1 => iteF ⟨A, B, s1, fun H2 e2 s2 => k H2 (e1.trans e2) s2⟩⟩
  | true =>
    obtain ⟨rfl, rfl⟩ := hf rfl
    exact pw_weak (pw_or (b := b) (rest := rest) (tB' := fun _ _ _ => False) ha ⟨fun _ _ _ _ _ _ _ z => z.elim⟩) fun σ H Q ⟨A, B, s, k⟩ => ⟨A, B, s, fun H1 e1 s1 => iteT (k H1 e1 s1)⟩
/-- a if t else b -/
theorem xe_if (ht : XT X CS c δ p δ1) (ha : p = true → XE X CS a δ1 r δ2) (hb : p = false → XE X CS b δ1 r δ2) : XE X CS (.IfExp c a b pos) δ r δ2 := by
  cases p with
  | true =>
    exact pe_weak (pe_ifExp (tb := fun _ _ _ => False) ht (ha rfl) ⟨fun _ _ _ _ _ _ z => z.elim⟩) fun σ H Q ⟨A, B, s, k⟩ => ⟨A, B, s, fun H1 e1 s1 => iteT ⟨A, B, s1, fun w H2 e2 s2 q2 => k w H2 (e1.trans e2) s2 (q2.back e1)⟩⟩
  | false =>
    exact pe_weak (pe_ifExp (ta := fun _ _ _ => False) ht ⟨fun _ _ _ _ _ _ z => z.elim⟩ (hb rfl)) fun σ H Q ⟨A, B, s, k⟩ => ⟨A, B, s, fun H1 e1 s1 => iteF ⟨A, B, s1, fun w H2 e2 s2 q2 => k w H2 (e1.trans e2) s2 (q2.back e1)⟩⟩

/-! ### arguments -/
variable {es : List Expr} {rs : List Res}
theorem xa_nil : XA X CS [] δ [] δ := pa_weak pa_nil fun σ H Q ⟨A, B, s, k⟩ => k [] H Ext.refl s rfl
theorem xa_cons (ha : XE X CS a δ r δ1) (hr : XA X CS es δ1 rs δ2) (hs : starEach (a :: es) X.env = (false, eval a X.env) :: starEach es X.env := by rfl) : XA X CS (a :: es) δ (r :: rs) δ2 :=
  pa_weak (pa_cons ha hr hs) fun σ H Q ⟨A, B, s, k⟩ => ⟨A, B, s, fun v H1 e1 s1 q1 => ⟨A, B, s1, fun vs H2 e2 s2 q2 => k _ H2 (e1.trans e2) s2 ⟨v, vs, rfl, q1.step s e2, q2.back e1⟩⟩⟩
end
end K06
/-! K2: displays, items, slices, fields, built-in calls. -/
namespace K06
open PySem PySem.Spec L2
variable {X : Cx} {CS : Addr} {sc : Scope} {N : List Str} {vs ls : List Nat} {gs : List Str}

theorem Reps.atI {CS : Addr} {H : Hp} {A : AP1} {ds : List D} {ws : List V} {i : Int} {d : D} (h : Reps CS H A ds ws) (e : L2.atI ds i = some d) : ∃ v, L2.atI ws i = some v ∧ Rep CS H A d v := by
  unfold L2.atI at e ⊢
  rw [h.len]
  cases q : ixN ds.length i with
  | none =>
    rw [q] at e
    cases e
  | some j =>
    rw [q] at e
    obtain ⟨v, h1, h2⟩ := h.get (i := j) (d := d) e
    exact ⟨v, h1, h2⟩
/-- the items of ds[lo:hi] -/
def cutD (ds : List D) (lo hi : Option Int) : List D := (ds.drop (HT.sIx ds.length 0 lo)).take (HT.sIx ds.length ds.length hi - HT.sIx ds.length 0 lo)
theorem Reps.cut {CS : Addr} {H : Hp} {A : AP1} {ds : List D} {ws : List V} {lo hi : Option Int} (h : Reps CS H A ds ws) : Reps CS H A (cutD ds lo hi) (cutV ws lo hi) := by
  unfold cutD cutV
  rw [h.len]
  exact (h.drop _).take _
theorem LFs_get : ∀ {ds : List D} {i : Nat} {d : D}, LFs ds = true → ds[i]? = some d → LF d = true
  | [], i, d, _, e => by simp at e
  | x :: ds, 0, d, l, e => by
    have l2 : LF x = true ∧ LFs ds = true := by simpa [LFs] using l
    have e2 : x = d := by simpa using e
    exact e2 ▸ l2.1
  | x :: ds, i + 1, d, l, e => by
    have l2 : LF x = true ∧ LFs ds = true := by simpa [LFs] using l
    exact LFs_get l2.2 (by simpa using e)
theorem LFs_app : ∀ {ds es : List D}, LFs (ds ++ es) = (LFs ds && LFs es)
  | [], es => by simp [LFs]
  | x :: ds, es => by
    show LFs (x :: (ds ++ es)) = (LFs (x :: ds) && LFs es)
    simp only [LFs, LFs_app (ds := ds), Bool.and_assoc]
theorem LFs_ints : ∀ (ns : List Int), LFs (ns.map D.int) = true
  | [] => rfl
  | n :: ns => by
    show (LF (.int n) && LFs (ns.map D.int)) = true
    rw [LFs_ints ns]
    rfl
theorem LFs_map {α : Type} {f : α → D} (h : ∀ x, LF (f x) = true) : ∀ (xs : List α), LFs (xs.map f) = true
  | [] => rfl
  | x :: xs => by
    show (LF (f x) && LFs (xs.map f)) = true
    rw [LFs_map h xs, h x]
    rfl
theorem LFs_all : ∀ {ds : List D}, (∀ d ∈ ds, LF d = true) → LFs ds = true
  | [], _ => rfl
  | d :: ds, h => by
    show (LF d && LFs ds) = true
    rw [h d (by simp), LFs_all fun x hx => h x (by simp [hx])]
    rfl

section
variable {a b c e : Expr} {es : List Expr} {pos p2 : Pos} {δ δ1 δ2 δ3 : Sto} {x y z : D} {r r' r1 r2 : Res} {ds ds' es' : List D} {rs : List Res}

/-! ### a built-in called: the question answered from what is known of the arguments -/
def CallD (CS : Addr) (ρ : List V → Hp → VK → Prop) (δ : Sto) (rs : List Res) (r : Res) : Prop := ∀ (A : AP1) (B : Bo) (σ : L2.St) (H0 H : Hp) (ws : List V) (Q : VK), SR CS A B σ H δ → (∀ a, Un2 A B a → H0 a ≠ none) → RRs CS A B H0 H rs ws →
  (∀ w H', Same H H' → RR CS A B H H' r w → Q w H') → ρ ws H Q
theorem tCB_of {ρ : List V → Hp → VK → Prop} {ta : TA} (hr : CallD CS ρ δ1 rs r) (σ : L2.St) (H : Hp) (Q : VK) (h : tE CS δ r δ1 σ H Q)
    (ha : ∀ Q', tA CS δ rs δ1 σ H Q' → ta σ H Q') : tCB ρ ta σ H Q := by
  obtain ⟨A, B, s, k⟩ := h
  refine ha _ ⟨A, B, s, fun ws H1 e1 s1 q1 => ?_⟩
  exact hr A B σ H H1 ws Q s1 (fun a z => s.tracked z) q1 fun w H2 sm q2 => k w H2 (e1.trans (Same.ext sm)) (s1.same sm) (q2.back e1)
theorem xe_callB {ρ : List V → Hp → VK → Prop} {id : String} {nm : Str} (C : Ctx X sc N vs ls gs) (j : Nat) (hj : gs[j]? = some nm) (hc : CallR X (.builtin id) ρ) (hm : X.mg nm = none) (hv : bootBuiltins nm = some (.builtin id)) (ha : XA X CS (e :: es) δ rs δ1) (hr : CallD CS ρ δ1 rs r)
    (hn : nm ≠ "__name__" := by decide) (he : starEach (e :: es) X.env = (false, eval e X.env) :: starEach es X.env := by rfl) (hpl : (backTo pos (starEach es X.env)).any (·.1) = false := by rfl) : XE X CS (.Call (.Name nm p2) (e :: es) [] pos) δ r δ1 := by
  obtain ⟨g1, g2⟩ := C.gl j nm hj
  exact pe_weak (pe_callB hc g1 hm hv ha hn g2 he hpl) fun σ H Q h => tCB_of hr σ H Q h fun _ q => q
theorem xe_callTy {ρ : List V → Hp → VK → Prop} {T : String} {nm : Str} (C : Ctx X sc N vs ls gs) (j : Nat) (hj : gs[j]? = some nm) (hc : CallR X (.type T) ρ) (hm : X.mg nm = none) (hv : bootBuiltins nm = some (.type T)) (ha : XA X CS (e :: es) δ rs δ1) (hr : CallD CS ρ δ1 rs r)
    (hn : nm ≠ "__name__" := by decide) (he : starEach (e :: es) X.env = (false, eval e X.env) :: starEach es X.env := by rfl) (hpl : (backTo pos (starEach es X.env)).any (·.1) = false := by rfl) : XE X CS (.Call (.Name nm p2) (e :: es) [] pos) δ r δ1 := by
  obtain ⟨g1, g2⟩ := C.gl j nm hj
  exact pe_weak (pe_callTy hc g1 hm hv ha hn g2 he hpl) fun σ H Q h => tCB_of hr σ H Q h fun _ q => q

section
variable {A : AP1} {B : Bo} {H H1 H0 : Hp} {σ : L2.St} {v : V} {ws : List V}
theorem RRs.one (h : RRs CS A B H0 H [r] ws) : ∃ v, ws = [v] ∧ RR CS A B H0 H r v := by
  obtain ⟨v, w, e, h1, h2⟩ := h
  have e2 : w = [] := h2
  exact ⟨v, by rw [e, e2], h1⟩
theorem RRs.two (h : RRs CS A B H0 H [r1, r2] ws) : ∃ v u, ws = [v, u] ∧ RR CS A B H0 H r1 v ∧ RR CS A B H0 H r2 u := by
  obtain ⟨v, w, e, h1, h2⟩ := h
  obtain ⟨u, e2, h3⟩ := RRs.one h2
  exact ⟨v, u, by rw [e, e2], h1, h3⟩
theorem RRs.three {r3 : Res} (h : RRs CS A B H0 H [r1, r2, r3] ws) : ∃ v u w, ws = [v, u, w] ∧ RR CS A B H0 H r1 v ∧ RR CS A B H0 H r2 u ∧ RR CS A B H0 H r3 w := by
  obtain ⟨v, w, e, h1, h2⟩ := h
  obtain ⟨u, u2, e2, h3, h4⟩ := RRs.two h2
  exact ⟨v, u, u2, by rw [e, e2], h1, h3, h4⟩
/-- the content, as LstC.at, where the earlier heap is known by its tracked things alone -/
theorem LstC.at' (c : LstC δ r ds) (t : ∀ a, Un2 A B a → H0 a ≠ none) (s : SR CS A B σ H δ) (h : RR CS A B H0 H r v) : ∃ a vs, v = .ref a ∧ H a = some (.lst vs) ∧ Reps CS H (Un2 A B) ds vs := by
  cases r with
  | d x =>
    cases x with
    | lst ds' =>
      have e : ds' = ds := by simpa [LstC] using c
      subst e
      obtain ⟨a, vs, e, _, h1, h2⟩ := h
      exact ⟨a, vs, e, h1, h2⟩
    | _ => exact (by simpa [LstC] using c : False).elim
  | n x =>
    cases x with
    | lst ds' =>
      have e : ds' = ds := by simpa [LstC] using c
      subst e
      obtain ⟨a, vs, e, _, h1, h2⟩ := h
      exact ⟨a, vs, e, h1, Reps.anti t _ _ h2⟩
    | _ => exact (by simpa [LstC] using c : False).elim
  | m l =>
    obtain ⟨i, e⟩ := c
    obtain ⟨w, e1, e2, _, _, vs, h1, h2⟩ := s.sl i _ e
    exact ⟨l, vs, h, h1, h2⟩
theorem TupC.at' (c : TupC r ds) (t : ∀ a, Un2 A B a → H0 a ≠ none) (h : RR CS A B H0 H r v) : ∃ a vs, v = .ref a ∧ H a = some (.tup vs) ∧ Reps CS H (Un2 A B) ds vs := by
  cases r with
  | d x =>
    cases x with
    | tup ds' =>
      have e : ds' = ds := by simpa [TupC] using c
      subst e
      exact h
    | _ => exact (by simpa [TupC] using c : False).elim
  | n x =>
    cases x with
    | tup ds' =>
      have e : ds' = ds := by simpa [TupC] using c
      subst e
      obtain ⟨a, vs, e, h1, h2⟩ := h
      exact ⟨a, vs, e, h1, Reps.anti t _ _ h2⟩
    | _ => exact (by simpa [TupC] using c : False).elim
  | m l => exact (by simpa [TupC] using c : False).elim
/-- a list or a tuple -/
def SeqC (δ : Sto) (r : Res) (ds : List D) : Prop := LstC δ r ds ∨ TupC r ds
theorem SeqC.at {K : PySem.W.Frag} (c : SeqC δ r ds) (t : ∀ a, Un2 A B a → H0 a ≠ none) (s : SR CS A B σ H δ) (h : RR CS A B H0 H r v) : ∃ a vs, v = .ref a ∧ (SqL K H a vs ∨ SqT K H a vs) ∧ Reps CS H (Un2 A B) ds vs := by
  rcases c with c | c
  · obtain ⟨a, vs, e, h1, h2⟩ := c.at' t s h
    exact ⟨a, vs, e, .inl (SqL.of h1), h2⟩
  · obtain ⟨a, vs, e, h1, h2⟩ := c.at' t h
    exact ⟨a, vs, e, .inr (SqT.of h1), h2⟩
/-- what is laid new -/
theorem rep_newT (hp : H v_p = none) {vs : List V} (h : Reps CS H A ds vs) : Rep CS (upd H v_p (.tup vs)) A (.tup ds) (.ref v_p) :=
  ⟨v_p, vs, rfl, upd_same, Reps.stay (Same.stay fun b o e => by rw [upd_ne (ne_of_none e hp)]; exact e) _ _ h⟩
theorem same_new {p : Addr} {o : HO} (hp : H p = none) : Same H (upd H p o) := fun b u e => by
  rw [upd_ne (ne_of_none e hp)]
  exact e
/-- a new list of listless items -/
theorem rr_newL {p : Addr} {vs : List V} (hp : H p = none) (l : LFs ds = true) (h : Reps CS H A' ds vs) : RR CS A B H (upd H p (.lst vs)) (.n (.lst ds)) (.ref p) :=
  ⟨p, vs, rfl, fun z => z hp, upd_same, Reps.lf _ _ l (Reps.stay (Same.stay (same_new hp)) _ _ h)⟩
theorem rr_newT {p : Addr} {vs : List V} (hp : H p = none) (h : Reps CS H (Un2 A B) ds vs) : RR CS A B H (upd H p (.tup vs)) (.d (.tup ds)) (.ref p) := rep_newT hp h
end

/-! ### displays -/
def ResDs : List D → List Res
  | [] => []
  | d :: ds => .d d :: ResDs ds
theorem RRs.reps {A : AP1} {B : Bo} {H0 H : Hp} : ∀ {ds : List D} {ws : List V}, RRs CS A B H0 H (ResDs ds) ws → Reps CS H (Un2 A B) ds ws
  | [], ws, h => h
  | d :: ds, ws, h => by
    obtain ⟨v, w, e, h1, h2⟩ := h
    exact ⟨v, w, e, h1, RRs.reps h2⟩
theorem xe_tup {k : Nat} (h : XA X CS es δ (ResDs ds) δ1) (hl : ds.length ≤ 1000) : XE X CS (.Tuple es k pos) δ (.d (.tup ds)) δ1 :=
  pe_weak (pe_tup h) fun σ H Q ⟨A, B, s, kk⟩ => ⟨A, B, s, fun ws H1 e1 s1 q1 => by
    have q2 := RRs.reps q1
    refine ⟨by rw [q2.len]; exact Nat.le_of_lt (small1000 hl), fun p hp => ?_⟩
    exact kk _ _ (e1.trans (Same.ext (same_new hp))) (s1.same (same_new hp)) ((rr_newT hp q2).back e1)⟩
theorem xe_lst (h : XA X CS es δ (ResDs ds) δ1) (hl : ds.length ≤ 1000) (l : LFs ds = true) : XE X CS (.List es pos) δ (.n (.lst ds)) δ1 :=
  pe_weak (pe_lst h) fun σ H Q ⟨A, B, s, kk⟩ => ⟨A, B, s, fun ws H1 e1 s1 q1 => by
    have q2 := RRs.reps q1
    refine ⟨by rw [q2.len]; exact Nat.le_of_lt (small1000 hl), fun p hp => ?_⟩
    exact kk _ _ (e1.trans (Same.ext (same_new hp))) (s1.same (same_new hp)) ((rr_newL hp l q2).back e1)⟩

/-! ### items -/
variable {i j : Int}
theorem xe_ixL (ha : XE X CS a δ r δ1) (hb : XE X CS b δ1 (.d (.int i)) δ2) (hc : LstC δ2 r ds) (hx : L2.atI ds i = some x) (hs : PlainIx b := by intro _ _; rfl) : XE X CS (.Subscript a b pos) δ (.d x) δ2 :=
  pe_weak (pe_ix ix_list ha hb hs) fun σ H Q h => tOp_of (r1 := r) (r2 := .d (.int i)) (fun A B σ H0 H v u Q s t h1 h2 k => by
    obtain ⟨p, ws, e, g1, g2⟩ := hc.at' t s h1
    obtain ⟨w, g3, g4⟩ := g2.atI hx
    exact ⟨p, ws, i, w, e, h2, SqL.of g1, g3, k w H (Same.refl H) g4⟩) σ H Q h (fun _ q => q) fun _ _ q => q
theorem xe_ixT (ha : XE X CS a δ r δ1) (hb : XE X CS b δ1 (.d (.int i)) δ2) (hc : TupC r ds) (hx : L2.atI ds i = some x) (hs : PlainIx b := by intro _ _; rfl) : XE X CS (.Subscript a b pos) δ (.d x) δ2 :=
  pe_weak (pe_ix ix_tup ha hb hs) fun σ H Q h => tOp_of (r1 := r) (r2 := .d (.int i)) (fun A B σ H0 H v u Q s t h1 h2 k => by
    obtain ⟨p, ws, e, g1, g2⟩ := hc.at' t h1
    obtain ⟨w, g3, g4⟩ := g2.atI hx
    exact ⟨p, ws, i, w, e, h2, SqT.of g1, g3, k w H (Same.refl H) g4⟩) σ H Q h (fun _ q => q) fun _ _ q => q

/-! ### slices -/
def tO (CS : Addr) (δ : Sto) (o : Option Int) (δ' : Sto) : TO := fun σ H Q => ∃ A B, SR CS A B σ H δ ∧ ∀ H', Ext A B H A H' → SR CS A B σ H' δ' → Q o H'
abbrev XO (X : Cx) (CS : Addr) (e : Option Expr) (δ : Sto) (o : Option Int) (δ' : Sto) : Prop := PO X e (tO CS δ o δ')
theorem po_weak {e : Option Expr} {t t' : TO} (h : PO X e t) (w : ∀ σ H Q, t' σ H Q → t σ H Q) : PO X e t' := ⟨fun pins s σ H Q I q => h.run pins s σ H Q I (w σ H Q q)⟩
theorem xo_none : XO X CS none δ none δ := po_weak po_none fun σ H Q ⟨A, B, s, k⟩ => k H Ext.refl s
theorem xo_some (h : XE X CS e δ (.d (.int i)) δ1) : XO X CS (some e) δ (some i) δ1 := po_weak (po_some h) fun σ H Q ⟨A, B, s, k⟩ => ⟨A, B, s, fun v H1 e1 s1 q1 => ⟨i, q1, k H1 e1 s1⟩⟩
variable {lo hi : Option Expr} {l h' : Option Int}
theorem xe_slL (ha : XE X CS a δ r δ1) (hl : XO X CS lo δ1 l δ2) (hh : XO X CS hi δ2 h' δ3) (hc : LstC δ3 r ds) (hf : LFs (cutD ds l h') = true) : XE X CS (.Subscript a (.Slice lo hi none p2) pos) δ (.n (.lst (cutD ds l h'))) δ3 :=
  pe_weak (pe_slice sl_list ha hl hh) fun σ H Q ⟨A, B, s, k⟩ => ⟨A, B, s, fun v H1 e1 s1 q1 => ⟨A, B, s1, fun H2 e2 s2 => ⟨A, B, s2, fun H3 e3 s3 => by
    obtain ⟨p, ws, e, g1, g2⟩ := hc.at' (fun a z => s.tracked z) s3 ((q1.step s e2).step s e3)
    refine ⟨p, ws, e, SqL.of g1, fun q hq => ?_⟩
    have e13 := (e1.trans e2).trans e3
    exact k _ _ (e13.trans (Same.ext (same_new hq))) (s3.same (same_new hq)) ((rr_newL hq hf g2.cut).back e13)⟩⟩⟩
theorem xe_slT (ha : XE X CS a δ r δ1) (hl : XO X CS lo δ1 l δ2) (hh : XO X CS hi δ2 h' δ3) (hc : TupC r ds) : XE X CS (.Subscript a (.Slice lo hi none p2) pos) δ (.d (.tup (cutD ds l h'))) δ3 :=
  pe_weak (pe_slice sl_tupA ha hl hh) fun σ H Q ⟨A, B, s, k⟩ => ⟨A, B, s, fun v H1 e1 s1 q1 => ⟨A, B, s1, fun H2 e2 s2 => ⟨A, B, s2, fun H3 e3 s3 => by
    obtain ⟨p, ws, e, g1, g2⟩ := hc.at' (fun a z => s.tracked z) ((q1.step s e2).step s e3)
    have e13 := (e1.trans e2).trans e3
    refine ⟨p, ws, e, SqT.of g1, fun w => ?_, fun _ q hq => ?_⟩
    · refine k _ _ e13 s3 ?_
      have ec : cutD ds l h' = ds := by
        unfold cutD
        rw [g2.len] at w
        rw [w.1, w.2]
        simp
      rw [ec]
      exact ⟨p, ws, rfl, g1, g2⟩
    · exact k _ _ (e13.trans (Same.ext (same_new hq))) (s3.same (same_new hq)) ((rr_newT hq g2.cut).back e13)⟩⟩⟩

/-! ### tuple + tuple, list + list, list * int -/
theorem xe_catT (ha : XE X CS a δ r1 δ1) (hb : XE X CS b δ1 r2 δ2) (h1 : TupC r1 ds) (h2 : TupC r2 es') (hz : ds.length + es'.length ≤ 1000) : XE X CS (.BinOp a .Add b pos) δ (.d (.tup (ds ++ es'))) δ2 :=
  xe_op op_catA ha hb fun A B σ H0 H v u Q s t q1 q2 k => by
    obtain ⟨p, ws, e, g1, g2⟩ := h1.at' t q1
    obtain ⟨q, us, e', f1, f2⟩ := h2.at' t q2
    refine ⟨p, q, ws, us, e, e', SqT.of g1, SqT.of f1, ?_, fun z => ?_, fun _ z => ?_, fun _ _ n hn => ?_⟩
    · rw [g2.len, f2.len]
      exact Nat.le_of_lt (small1000 hz)
    · refine k _ H (Same.refl H) ?_
      have e0 : ds = [] := by
        have := g2.len
        rw [z] at this
        exact List.eq_nil_of_length_eq_zero this.symm
      rw [e0]
      exact ⟨q, us, rfl, f1, f2⟩
    · refine k _ H (Same.refl H) ?_
      have e0 : es' = [] := by
        have := f2.len
        rw [z] at this
        exact List.eq_nil_of_length_eq_zero this.symm
      rw [e0, List.append_nil]
      exact ⟨p, ws, rfl, g1, g2⟩
    · exact k _ _ (same_new hn) (rr_newT hn (g2.app f2))
theorem xe_cat (ha : XE X CS a δ r1 δ1) (hb : XE X CS b δ1 r2 δ2) (h1 : LstC δ2 r1 ds) (h2 : LstC δ2 r2 es') (hz : ds.length + es'.length ≤ 1000) (hf : LFs (ds ++ es') = true) : XE X CS (.BinOp a .Add b pos) δ (.n (.lst (ds ++ es'))) δ2 :=
  xe_op op_cat ha hb fun A B σ H0 H v u Q s t q1 q2 k => by
    obtain ⟨p, ws, e, g1, g2⟩ := h1.at' t s q1
    obtain ⟨q, us, e', f1, f2⟩ := h2.at' t s q2
    refine ⟨p, q, ws, us, e, e', g1, f1, ?_, fun n hn => ?_⟩
    · rw [g2.len, f2.len]
      exact Nat.le_of_lt (small1000 hz)
    · exact k _ _ (same_new hn) (rr_newL hn hf (g2.app f2))
theorem flat_rep {α : Type} (x : α) : ∀ k : Nat, (List.replicate k [x]).flatten = List.replicate k x
  | 0 => rfl
  | k + 1 => by
    rw [List.replicate_succ, List.flatten_cons, List.replicate_succ, flat_rep x k]
    rfl
theorem Reps.rep {H : Hp} {A : AP1} {ws : List V} (h : Reps CS H A ds ws) : ∀ k : Nat, Reps CS H A (List.replicate k ds).flatten (List.replicate k ws).flatten
  | 0 => rfl
  | k + 1 => by
    show Reps CS H A (List.replicate (k + 1) ds).flatten (List.replicate (k + 1) ws).flatten
    rw [List.replicate_succ, List.replicate_succ, List.flatten_cons, List.flatten_cons]
    exact h.app (Reps.rep h k)
theorem xe_rep {k : Nat} (ha : XE X CS a δ r1 δ1) (hb : XE X CS b δ1 (.d (.int (k : Nat))) δ2) (h1 : LstC δ2 r1 [x]) (hz : k ≤ 1000) (hf : LF x = true) : XE X CS (.BinOp a .Mult b pos) δ (.n (.lst (List.replicate k x))) δ2 :=
  xe_op op_rep ha hb fun A B σ H0 H v u Q s t q1 q2 kk => by
    obtain ⟨p, ws, e, g1, g2⟩ := h1.at' t s q1
    have e2 : u = .int (k : Nat) := q2
    refine ⟨p, (k : Nat), ws, e, e2, g1, by omega, by omega, ?_, fun n hn => ?_⟩
    · rw [g2.len]
      show 1 * ((k : Nat) : Int).toNat ≤ sizeLine
      rw [Int.toNat_natCast, Nat.one_mul]
      exact Nat.le_of_lt (small1000 hz)
    · have e3 : (List.replicate k [x]).flatten = List.replicate k x := flat_rep x k
      refine kk _ _ (same_new hn) ?_
      rw [Int.toNat_natCast]
      have g3 := Reps.rep g2 k
      rw [e3] at g3
      exact rr_newL hn (LFs_all fun d hd => by rw [(List.mem_replicate.mp hd).2]; exact hf) g3

/-! ### x in xs -/
theorem inV_ints (n : Int) : ∀ ns : List Int, inV (.int n) (ns.map V.int) = decide (n ∈ ns)
  | [] => by simp [inV]
  | m :: ns => by
    have ih := inV_ints n ns
    unfold inV at ih ⊢
    rw [List.map_cons, List.any_cons, ih]
    show (m == n || decide (n ∈ ns)) = decide (n ∈ m :: ns)
    by_cases e : m = n
    · simp [e]
    · have e' : ¬ n = m := fun z => e z.symm
      simp [e, e']
theorem flat_ints : ∀ ns : List Int, (ns.map V.int).all flatV = true
  | [] => rfl
  | n :: ns => by simp [flatV]
theorem xe_in {ns : List Int} (ha : XE X CS a δ (.d (.int i)) δ1) (hb : XE X CS b δ1 r δ2) (hc : SeqC δ2 r (ns.map D.int)) (hm : behindInMarks .In b = false := by rfl) : XE X CS (.Compare a [.In] [b] pos) δ (.d (.bl (decide (i ∈ ns)))) δ2 :=
  xe_cmp op_in_seq ha hb (fun A B σ H0 H v u Q s t q1 q2 k => by
    obtain ⟨p, ws, e, g1, g2⟩ := hc.at (K := X.K) t s q2
    have e1 : v = .int i := q1
    have e2 := g2.ints
    subst e1; subst e2
    exact ⟨p, _, e, g1, rfl, flat_ints ns, k _ H (Same.refl H) (by rw [inV_ints]; exact rfl)⟩) hm
theorem xe_notin {ns : List Int} (ha : XE X CS a δ (.d (.int i)) δ1) (hb : XE X CS b δ1 r δ2) (hc : SeqC δ2 r (ns.map D.int)) (hm : behindInMarks .NotIn b = false := by rfl) : XE X CS (.Compare a [.NotIn] [b] pos) δ (.d (.bl (!decide (i ∈ ns)))) δ2 :=
  xe_cmp op_notIn_seq ha hb (fun A B σ H0 H v u Q s t q1 q2 k => by
    obtain ⟨p, ws, e, g1, g2⟩ := hc.at (K := X.K) t s q2
    have e1 : v = .int i := q1
    have e2 := g2.ints
    subst e1; subst e2
    exact ⟨p, _, e, g1, rfl, flat_ints ns, k _ H (Same.refl H) (by rw [inV_ints]; exact rfl)⟩) hm

/-! ### len, list, tuple -/
theorem xe_len (C : Ctx X sc N vs ls gs) (k : Nat) (hk : gs[k]? = some "len") (ha : XE X CS a δ r δ1) (hc : SeqC δ1 r ds) (hs : starEach [a] X.env = (false, eval a X.env) :: starEach [] X.env := by rfl) : XE X CS (.Call (.Name "len" p2) [a] [] pos) δ (.d (.int ds.length)) δ1 :=
  xe_callB C k hk call_len_seq C.glb.len PySem.boot_len (xa_cons ha xa_nil hs) (fun A B σ H0 H ws Q s t q kk => by
    obtain ⟨v, e, q1⟩ := RRs.one q
    obtain ⟨p, us, e2, g1, g2⟩ := hc.at (K := X.K) t s q1
    refine ⟨p, us, by rw [e, e2], g1, kk _ H (Same.refl H) ?_⟩
    rw [g2.len]
    exact rfl) (he := hs)
theorem xe_list (C : Ctx X sc N vs ls gs) (k : Nat) (hk : gs[k]? = some "list") (ha : XE X CS a δ r δ1) (hc : SeqC δ1 r ds) (hf : LFs ds = true) (hs : starEach [a] X.env = (false, eval a X.env) :: starEach [] X.env := by rfl) : XE X CS (.Call (.Name "list" p2) [a] [] pos) δ (.n (.lst ds)) δ1 :=
  xe_callTy C k hk call_list_of C.glb.list (by decide +kernel) (xa_cons ha xa_nil hs) (fun A B σ H0 H ws Q s t q kk => by
    obtain ⟨v, e, q1⟩ := RRs.one q
    obtain ⟨p, us, e2, g1, g2⟩ := hc.at (K := X.K) t s q1
    exact ⟨p, us, by rw [e, e2], g1, fun n hn => kk _ _ (same_new hn) (rr_newL hn hf g2)⟩) (he := hs)
theorem xe_tuple (C : Ctx X sc N vs ls gs) (k : Nat) (hk : gs[k]? = some "tuple") (ha : XE X CS a δ r δ1) (hc : LstC δ1 r ds) (hs : starEach [a] X.env = (false, eval a X.env) :: starEach [] X.env := by rfl) : XE X CS (.Call (.Name "tuple" p2) [a] [] pos) δ (.d (.tup ds)) δ1 :=
  xe_callTy C k hk call_tuple_of C.glb.tuple (by decide +kernel) (xa_cons ha xa_nil hs) (fun A B σ H0 H ws Q s t q kk => by
    obtain ⟨v, e, q1⟩ := RRs.one q
    obtain ⟨p, us, e2, g1, g2⟩ := hc.at' t s q1
    exact ⟨p, us, by rw [e, e2], .inl ⟨SqL.of g1, fun n hn => kk _ _ (same_new hn) (rr_newT hn g2)⟩⟩) (he := hs)
theorem xe_tupleT (C : Ctx X sc N vs ls gs) (k : Nat) (hk : gs[k]? = some "tuple") (ha : XE X CS a δ r δ1) (hc : TupC r ds) (hs : starEach [a] X.env = (false, eval a X.env) :: starEach [] X.env := by rfl) : XE X CS (.Call (.Name "tuple" p2) [a] [] pos) δ (.d (.tup ds)) δ1 :=
  xe_callTy C k hk call_tuple_of C.glb.tuple (by decide +kernel) (xa_cons ha xa_nil hs) (fun A B σ H0 H ws Q s t q kk => by
    obtain ⟨v, e, q1⟩ := RRs.one q
    obtain ⟨p, us, e2, g1, g2⟩ := hc.at' t q1
    exact ⟨p, us, by rw [e, e2], .inr ⟨SqT.of g1, kk _ _ (Same.refl H) ⟨p, us, rfl, g1, g2⟩⟩⟩) (he := hs)
/-- list(range(n)) -/
theorem rgV_ints (n : Nat) : rgV 0 (n : Int) = ((List.range n).map fun i => ((i : Nat) : Int)).map V.int := by
  unfold rgV
  rw [List.map_map]
  have e : ((n : Int) - 0).toNat = n := by omega
  rw [e]
  refine List.map_congr_left fun i _ => ?_
  show V.int (0 + (i : Int)) = V.int (i : Int)
  rw [Int.zero_add]
abbrev natsD (ns : List Nat) : List D := (ns.map fun i => ((i : Nat) : Int)).map D.int
theorem xe_listR {n : Nat} (C : Ctx X sc N vs ls gs) (k k2 : Nat) (hk : gs[k]? = some "list") (hk2 : gs[k2]? = some "range") (ha : XE X CS a δ (.d (.int (n : Nat))) δ1) (hn : n ≤ 1000) {p3 p4 : Pos} (hs : starEach [a] X.env = (false, eval a X.env) :: starEach [] X.env := by rfl) :
    XE X CS (.Call (.Name "list" p2) [.Call (.Name "range" p3) [a] [] p4] [] pos) δ (.n (.lst (natsD (List.range n)))) δ1 :=
  pe_weak (pe_listRg C.calm (C.gl k _ hk).1 C.glb.list (prg_1 (C.gl k2 _ hk2).1 C.glb.range ha hs)) fun σ H Q ⟨A, B, s, kk⟩ => ⟨A, B, s, fun v H1 e1 s1 q1 => ⟨(n : Nat), q1, RgOk.of_le (by omega) (by omega) (by omega) (by omega), fun q hq => by
    refine kk _ _ (e1.trans (Same.ext (same_new hq))) (s1.same (same_new hq)) (RR.back e1 ?_)
    rw [rgV_ints]
    exact rr_newL (A' := Un2 A B) hq (LFs_ints _) (Reps.of_ints _)⟩⟩

/-! ### sum, min, max, all, abs, int -/
theorem xe_sum {ns : List Int} (C : Ctx X sc N vs ls gs) (k : Nat) (hk : gs[k]? = some "sum") (ha : XE X CS a δ r δ1) (hc : LstC δ1 r (ns.map D.int)) (hs : starEach [a] X.env = (false, eval a X.env) :: starEach [] X.env := by rfl) : XE X CS (.Call (.Name "sum" p2) [a] [] pos) δ (.d (.int ns.sum)) δ1 :=
  xe_callB C k hk (cr_sum C.calm) C.glb.sum (by decide +kernel) (xa_cons ha xa_nil hs) (fun A B σ H0 H ws Q s t q kk => by
    obtain ⟨v, e, q1⟩ := RRs.one q
    obtain ⟨p, us, e2, g1, g2⟩ := hc.at' t s q1
    have e3 := g2.ints
    subst e3
    exact ⟨p, ns, by rw [e, e2], SqL.of g1, kk _ H (Same.refl H) rfl⟩) (he := hs)
theorem xe_min {ns : List Int} {m : Int} (C : Ctx X sc N vs ls gs) (k : Nat) (hk : gs[k]? = some "min") (ha : XE X CS a δ r δ1) (hc : LstC δ1 r (ns.map D.int)) (hm : m ∈ ns) (hle : ∀ y ∈ ns, m ≤ y) (hs : starEach [a] X.env = (false, eval a X.env) :: starEach [] X.env := by rfl) : XE X CS (.Call (.Name "min" p2) [a] [] pos) δ (.d (.int m)) δ1 :=
  xe_callB C k hk (cr_min C.calm) C.glb.min (by decide +kernel) (xa_cons ha xa_nil hs) (fun A B σ H0 H ws Q s t q kk => by
    obtain ⟨v, e, q1⟩ := RRs.one q
    obtain ⟨p, us, e2, g1, g2⟩ := hc.at' t s q1
    have e3 := g2.ints
    subst e3
    refine ⟨p, ns, by rw [e, e2], SqL.of g1, List.length_pos_of_mem hm, fun m' h1 h2 => kk _ H (Same.refl H) ?_⟩
    have e4 : m' = m := Int.le_antisymm (h2 m hm) (hle m' h1)
    rw [e4]
    exact rfl) (he := hs)
theorem xe_max {ns : List Int} {m : Int} (C : Ctx X sc N vs ls gs) (k : Nat) (hk : gs[k]? = some "max") (ha : XE X CS a δ r δ1) (hc : LstC δ1 r (ns.map D.int)) (hm : m ∈ ns) (hle : ∀ y ∈ ns, y ≤ m) (hs : starEach [a] X.env = (false, eval a X.env) :: starEach [] X.env := by rfl) : XE X CS (.Call (.Name "max" p2) [a] [] pos) δ (.d (.int m)) δ1 :=
  xe_callB C k hk (cr_max C.calm) C.glb.max (by decide +kernel) (xa_cons ha xa_nil hs) (fun A B σ H0 H ws Q s t q kk => by
    obtain ⟨v, e, q1⟩ := RRs.one q
    obtain ⟨p, us, e2, g1, g2⟩ := hc.at' t s q1
    have e3 := g2.ints
    subst e3
    refine ⟨p, ns, by rw [e, e2], SqL.of g1, List.length_pos_of_mem hm, fun m' h1 h2 => kk _ H (Same.refl H) ?_⟩
    have e4 : m' = m := Int.le_antisymm (hle m' h1) (h2 m hm)
    rw [e4]
    exact rfl) (he := hs)
theorem xe_all {ns : List Bool} (C : Ctx X sc N vs ls gs) (k : Nat) (hk : gs[k]? = some "all") (ha : XE X CS a δ r δ1) (hc : LstC δ1 r (ns.map D.bl)) (hs : starEach [a] X.env = (false, eval a X.env) :: starEach [] X.env := by rfl) : XE X CS (.Call (.Name "all" p2) [a] [] pos) δ (.d (.bl (ns.all id))) δ1 :=
  xe_callB C k hk (cr_all C.calm) C.glb.all (by decide +kernel) (xa_cons ha xa_nil hs) (fun A B σ H0 H ws Q s t q kk => by
    obtain ⟨v, e, q1⟩ := RRs.one q
    obtain ⟨p, us, e2, g1, g2⟩ := hc.at' t s q1
    have e3 := g2.bls
    subst e3
    exact ⟨p, ns, by rw [e, e2], SqL.of g1, kk _ H (Same.refl H) rfl⟩) (he := hs)
theorem xe_abs (C : Ctx X sc N vs ls gs) (k : Nat) (hk : gs[k]? = some "abs") (ha : XE X CS a δ (.d (.int i)) δ1) (hs : starEach [a] X.env = (false, eval a X.env) :: starEach [] X.env := by rfl) : XE X CS (.Call (.Name "abs" p2) [a] [] pos) δ (.d (.int (if i < 0 then -i else i))) δ1 :=
  xe_callB C k hk call_abs C.glb.abs (by decide +kernel) (xa_cons ha xa_nil hs) (fun A B σ H0 H ws Q s t q kk => by
    obtain ⟨v, e, q1⟩ := RRs.one q
    have e2 : v = .int i := q1
    exact ⟨i, by rw [e, e2], kk _ H (Same.refl H) rfl⟩) (he := hs)
theorem xe_int1 (C : Ctx X sc N vs ls gs) (k : Nat) (hk : gs[k]? = some "int") (ha : XE X CS a δ (.d (.int i)) δ1) (hs : starEach [a] X.env = (false, eval a X.env) :: starEach [] X.env := by rfl) : XE X CS (.Call (.Name "int" p2) [a] [] pos) δ (.d (.int i)) δ1 :=
  xe_callTy C k hk call_int1 C.glb.int (by decide +kernel) (xa_cons ha xa_nil hs) (fun A B σ H0 H ws Q s t q kk => by
    obtain ⟨v, e, q1⟩ := RRs.one q
    have e2 : v = .int i := q1
    exact .inl ⟨i, by rw [e, e2], kk _ H (Same.refl H) rfl⟩) (he := hs)
theorem xe_max3 {k3 : Int} (C : Ctx X sc N vs ls gs) (k : Nat) (hk : gs[k]? = some "max") (ha : XA X CS [a, b, c] δ [.d (.int i), .d (.int j), .d (.int k3)] δ1) (hs : starEach [a, b, c] X.env = (false, eval a X.env) :: starEach [b, c] X.env := by rfl) (hpl : (backTo pos (starEach [b, c] X.env)).any (·.1) = false := by rfl) :
    XE X CS (.Call (.Name "max" p2) [a, b, c] [] pos) δ (.d (.int (max (max i j) k3))) δ1 :=
  xe_callB C k hk (call_max3Nu C.calm) C.glb.max (by decide +kernel) ha (fun A B σ H0 H ws Q s t q kk => by
    obtain ⟨v, u, w, e, q1, q2, q3⟩ := RRs.three q
    have e1 : v = .int i := q1
    have e2 : u = .int j := q2
    have e3 : w = .int k3 := q3
    subst e1; subst e2; subst e3
    have h2 : ∀ m n : Int, nuMax2 (.int m) (.int n) = some (.int (max m n)) := fun m n => by
      show some (if decide (m < n) = true then V.int n else V.int m) = some (V.int (max m n))
      by_cases h : m < n
      · rw [decide_eq_true h, if_pos rfl, Int.max_eq_right (Int.le_of_lt h)]
      · rw [decide_eq_false h, if_neg Bool.false_ne_true, Int.max_eq_left (Int.not_lt.mp h)]
    refine ⟨_, _, _, .int (max (max i j) k3), e, ?_, kk _ H (Same.refl H) rfl⟩
    unfold nuMax3
    rw [h2]
    exact h2 _ _) (he := hs) (hpl := hpl)
end
end K06
/-! K2b: isinstance, fields, dicts, sorted. -/
namespace K06
open PySem PySem.Spec L2
variable {X : Cx} {CS : Addr} {sc : Scope} {N : List Str} {vs ls : List Nat} {gs : List Str}
section
variable {a b c e : Expr} {es : List Expr} {pos p2 : Pos} {δ δ1 δ2 δ3 : Sto} {x y z : D} {r r' r1 r2 : Res} {ds ds' es' : List D} {rs : List Res} {i j : Int}

/-! ### isinstance -/
def tyD : D → Option String
  | .non => some "NoneType"
  | .bl _ => some "bool"
  | .int _ => some "int"
  | .str _ => some "str"
  | .tup _ => some "tuple"
  | .lst _ => some "list"
  | _ => none
def tyR : Res → Option String
  | .d x => tyD x
  | .n x => tyD x
  | .m _ => none
theorem tyX_of {K : PySem.W.Frag} {H : Hp} {A : AP1} {v : V} {T : String} (h : Rep CS H A x v) (e : tyD x = some T) : TyX K H v (.type T) := by
  cases x with
  | non =>
    cases e
    have q : v = .non := h
    rw [q]
    exact .base .non
  | bl w =>
    cases e
    have q : v = .bl w := h
    rw [q]
    exact .base (.bl w)
  | int w =>
    cases e
    have q : v = .int w := h
    rw [q]
    exact .base (.int w)
  | str w =>
    cases e
    have q : v = .str w := h
    rw [q]
    exact .base (.str w)
  | tup ds =>
    cases e
    obtain ⟨p, us, q, h1, _⟩ := h
    rw [q]
    exact .base (.tup h1)
  | lst ds =>
    cases e
    obtain ⟨p, us, q, _, h1, _⟩ := h
    rw [q]
    exact .base (.lst h1)
  | std _ _ _ => cases e
  | adr _ => cases e
  | ty _ => cases e
  | obj _ _ _ => cases e
theorem RR.ty {K : PySem.W.Frag} {A : AP1} {B : Bo} {H0 H : Hp} {v : V} {T : String} (h : RR CS A B H0 H r v) (e : tyR r = some T) : TyX K H v (.type T) := by
  cases r with
  | d x => exact tyX_of h e
  | n x => exact tyX_of h e
  | m l => cases e
/-- the name of a built-in class, as a value -/
theorem xe_bt {nm : Str} {T : String} (C : Ctx X sc N vs ls gs) (k : Nat) (hk : gs[k]? = some nm) (hm : X.mg nm = none) (hv : bootBuiltins nm = some (.type T)) (hn : nm ≠ "__name__" := by decide) : XE X CS (.Name nm pos) δ (.d (.ty T)) δ := by
  obtain ⟨g1, g2⟩ := C.gl k nm hk
  exact xe_c (pe_bltn g1 hm hv (v := .ty T) rfl hn g2) fun _ _ => rfl
theorem xe_isi {T T' : String} {q : Bool} (C : Ctx X sc N vs ls gs) (k : Nat) (hk : gs[k]? = some "isinstance") (ha : XE X CS a δ r δ1) (hb : XE X CS b δ1 (.d (.ty T')) δ2) (ht : tyR r = some T) (hq : kitB T T' = some q)
    (hs : starEach [a, b] X.env = (false, eval a X.env) :: starEach [b] X.env := by rfl) (hs2 : starEach [b] X.env = (false, eval b X.env) :: starEach [] X.env := by rfl) (hpl : (backTo pos (starEach [b] X.env)).any (·.1) = false := by rfl) :
    XE X CS (.Call (.Name "isinstance" p2) [a, b] [] pos) δ (.d (.bl q)) δ2 :=
  xe_callB C k hk call_isi C.glb.isinstance (by decide +kernel) (xa_cons ha (xa_cons hb xa_nil hs2) hs) (fun A B σ H0 H ws Q s t w kk => by
    obtain ⟨v, u, e1, q1, q2⟩ := RRs.two w
    have e2 : u = .ty T' := q2
    subst e2
    exact ⟨v, .ty T', .type T, .type T', q, e1, .ty T', q1.ty ht, kit_ty hq, kk _ H (Same.refl H) rfl⟩) (he := hs) (hpl := hpl)
theorem xe_isi2 {T T1 T2 : String} {q1 q2 : Bool} (C : Ctx X sc N vs ls gs) (k : Nat) (hk : gs[k]? = some "isinstance") (ha : XE X CS a δ r δ1) (hb : XE X CS b δ1 (.d (.tup [.ty T1, .ty T2])) δ2) (ht : tyR r = some T) (hq1 : kitB T T1 = some q1) (hq2 : kitB T T2 = some q2)
    (hs : starEach [a, b] X.env = (false, eval a X.env) :: starEach [b] X.env := by rfl) (hs2 : starEach [b] X.env = (false, eval b X.env) :: starEach [] X.env := by rfl) (hpl : (backTo pos (starEach [b] X.env)).any (·.1) = false := by rfl) :
    XE X CS (.Call (.Name "isinstance" p2) [a, b] [] pos) δ (.d (.bl (q1 || q2))) δ2 :=
  xe_callB C k hk call_isiT C.glb.isinstance (by decide +kernel) (xa_cons ha (xa_cons hb xa_nil hs2) hs) (fun A B σ H0 H ws Q s t w kk => by
    obtain ⟨v, u, e1, w1, w2⟩ := RRs.two w
    obtain ⟨tp, us, e2, h2, h3⟩ := w2
    obtain ⟨v1, r1, f1, f2, f3⟩ := h3
    obtain ⟨v2, r2, f4, f5, f6⟩ := f3
    have f7 : r2 = [] := f6
    have f8 : v1 = .ty T1 := f2
    have f9 : v2 = .ty T2 := f5
    subst f7; subst f8; subst f9; subst f4; subst f1
    refine ⟨v, tp, _, .type T, [.type T1, .type T2], q1 || q2, by rw [e1, e2], h2, .cons (.ty _) (.cons (.ty _) .nil), w1.ty ht, ?_, kk _ H (Same.refl H) rfl⟩
    refine kitAny_cons (kit_ty hq1) (fun z => kitAny_cons (kit_ty hq2) (fun z2 => ?_) fun z2 => ?_) fun z => by rw [z]; rfl
    · rw [z, z2]
      exact kitAny_nil
    · rw [z2]
      cases q1 <;> rfl) (he := hs) (hpl := hpl)

/-! ### fields of a standing -/
structure StdC (K : PySem.W.Frag) (CS : Addr) : Prop where
  cl : Cls K CS
  nc : NoAttr K CS "cells"
  nh : NoAttr K CS "head"
  nd : NoAttr K CS "deeds"
theorem fld_c {c h : Int} {t : Addr} : (stdF c h t).lookup ("cells" : Str) = some (.int c) := by
  unfold stdF
  simp [List.lookup]
theorem fld_h {c h : Int} {t : Addr} : (stdF c h t).lookup ("head" : Str) = some (.int h) := by
  unfold stdF
  rw [List.lookup_cons, show ((("head" : Str) == ("cells" : Str)) : Bool) = false by decide +kernel]
  simp [List.lookup]
theorem fld_d {c h : Int} {t : Addr} : (stdF c h t).lookup ("deeds" : Str) = some (.ref t) := by
  unfold stdF
  rw [List.lookup_cons, show ((("deeds" : Str) == ("cells" : Str)) : Bool) = false by decide +kernel]
  simp only
  rw [List.lookup_cons, show ((("deeds" : Str) == ("head" : Str)) : Bool) = false by decide +kernel]
  simp [List.lookup]
variable {cc hh : Int}
theorem xe_cells (S : StdC X.K CS) (ha : XE X CS a δ (.d (.std cc hh ds)) δ1) (hb : attributeBase a "cells" X.env (eval a X.env) = eval a X.env := by rfl) : XE X CS (.Attribute a "cells" pos) δ (.d (.int cc)) δ1 :=
  pe_weak (pe_fld ha hb) fun σ H Q ⟨A, B, s, k⟩ => ⟨A, B, s, fun v H1 e1 s1 q1 => by
    obtain ⟨p, dx, t, us, e, n, h1, h2, h3⟩ := q1
    exact ⟨p, CS, dx, _, _, e, h1, S.cl, S.nc, fld_c, k _ H1 e1 s1 rfl⟩⟩
theorem xe_head (S : StdC X.K CS) (ha : XE X CS a δ (.d (.std cc hh ds)) δ1) (hb : attributeBase a "head" X.env (eval a X.env) = eval a X.env := by rfl) : XE X CS (.Attribute a "head" pos) δ (.d (.int hh)) δ1 :=
  pe_weak (pe_fld ha hb) fun σ H Q ⟨A, B, s, k⟩ => ⟨A, B, s, fun v H1 e1 s1 q1 => by
    obtain ⟨p, dx, t, us, e, n, h1, h2, h3⟩ := q1
    exact ⟨p, CS, dx, _, _, e, h1, S.cl, S.nh, fld_h, k _ H1 e1 s1 rfl⟩⟩
theorem xe_deeds (S : StdC X.K CS) (ha : XE X CS a δ (.d (.std cc hh ds)) δ1) (hb : attributeBase a "deeds" X.env (eval a X.env) = eval a X.env := by rfl) : XE X CS (.Attribute a "deeds" pos) δ (.d (.tup ds)) δ1 :=
  pe_weak (pe_fld ha hb) fun σ H Q ⟨A, B, s, k⟩ => ⟨A, B, s, fun v H1 e1 s1 q1 => by
    obtain ⟨p, dx, t, us, e, n, h1, h2, h3⟩ := q1
    exact ⟨p, CS, dx, _, _, e, h1, S.cl, S.nd, fld_d, k _ H1 e1 s1 ⟨t, us, rfl, h2, h3⟩⟩⟩

/-! ### dicts by ints -/
theorem ReKV.look {H : Hp} {A : AP1} : ∀ {kvs : List (Int × D)} {kv : List (Key × V)}, ReKV CS H A kvs kv → ∀ i : Int, (kvs.lookup i = none ∧ valV kv (Sum.inl i) = none) ∨ ∃ d v, kvs.lookup i = some d ∧ valV kv (Sum.inl i) = some v ∧ Rep CS H A d v
  | [], kv, h, i => by
    obtain ⟨h1, h2⟩ := h
    have e : kv = [] := by simpa using h1
    subst e
    exact .inl ⟨rfl, rfl⟩
  | (k, d) :: kvs, kv, h, i => by
    obtain ⟨h1, h2⟩ := h
    cases kv with
    | nil => simp at h1
    | cons p kv =>
      obtain ⟨k', v⟩ := p
      have h1' : k' = Sum.inl k ∧ kv.map (·.1) = kvs.map (fun p => (Sum.inl p.1 : Key)) := by simpa using h1
      obtain ⟨rfl, h3⟩ := h1'
      obtain ⟨v', r', e', g1, g2⟩ := h2
      have e2 : v = v' ∧ kv.map (·.2) = r' := by simpa using e'
      obtain ⟨rfl, rfl⟩ := e2
      by_cases hi : i = k
      · subst hi
        exact .inr ⟨d, v, by simp [List.lookup], valV_pos rfl, g1⟩
      · have n1 : ((i == k) : Bool) = false := by simpa using hi
        rw [valV_neg (fun z => hi (Sum.inl.inj z).symm), List.lookup_cons, n1]
        exact ReKV.look (kvs := kvs) (kv := kv) ⟨h3, g2⟩ i
/-- the dict of a slot -/
def DicC (δ : Sto) : Res → List (Int × D) → Prop
  | .m l, kvs => ∃ i : Nat, δ[i]? = some (some (Slot.md l kvs))
  | _, _ => False
theorem DicC.at {A : AP1} {B : Bo} {σ : L2.St} {H H0 : Hp} {v : V} {kvs : List (Int × D)} (c : DicC δ r kvs) (s : SR CS A B σ H δ) (h : RR CS A B H0 H r v) : ∃ l kv, v = .ref l ∧ H l = some (.dK kv) ∧ ReKV CS H (Un2 A B) kvs kv := by
  cases r with
  | d x => exact c.elim
  | n x => exact c.elim
  | m l =>
    obtain ⟨i, e⟩ := c
    obtain ⟨w, e1, e2, _, _, vs, h1, h2⟩ := s.sl i _ e
    exact ⟨l, vs, h, h1, h2⟩
variable {kvs : List (Int × D)}
theorem xe_din (hu : X.A.units + 1 < cLine) (ha : XE X CS a δ (.d (.int i)) δ1) (hb : XE X CS b δ1 r δ2) (hc : DicC δ2 r kvs) (hm : behindInMarks .In b = false := by rfl) : XE X CS (.Compare a [.In] [b] pos) δ (.d (.bl (kvs.lookup i).isSome)) δ2 :=
  pe_weak (pe_cmp (pc_din hu ha hb) hm) fun σ H Q ⟨A, B, s, k⟩ => ⟨A, B, s, fun v H1 e1 s1 q1 => ⟨A, B, s1, fun u H2 e2 s2 q2 => by
    have e3 : v = .int i := q1
    subst e3
    obtain ⟨l, kv, e, h1, h2⟩ := hc.at s2 q2
    refine ⟨l, valV kv (Sum.inl i), e, DGet.k (k := Sum.inl i) h1, k _ H2 (e1.trans e2) s2 ?_⟩
    rcases h2.look i with ⟨n1, n2⟩ | ⟨d, v, n1, n2, _⟩
    · rw [n1, n2]
      exact rfl
    · rw [n1, n2]
      exact rfl⟩⟩
theorem xt_din (hu : X.A.units + 1 < cLine) (ha : XE X CS a δ (.d (.int i)) δ1) (hb : XE X CS b δ1 r δ2) (hc : DicC δ2 r kvs) (hm : behindInMarks .In b = false := by rfl) : XT X CS (.Compare a [.In] [b] pos) δ (kvs.lookup i).isSome δ2 :=
  pt_weak (pt_cmp (pc_din hu ha hb) hm) fun σ H Q ⟨A, B, s, k⟩ => ⟨A, B, s, fun v H1 e1 s1 q1 => ⟨A, B, s1, fun u H2 e2 s2 q2 => by
    have e3 : v = .int i := q1
    subst e3
    obtain ⟨l, kv, e, h1, h2⟩ := hc.at s2 q2
    refine ⟨l, valV kv (Sum.inl i), e, DGet.k (k := Sum.inl i) h1, _, ?_, k H2 (e1.trans e2) s2⟩
    rcases h2.look i with ⟨n1, n2⟩ | ⟨d, v, n1, n2, _⟩
    · rw [n1, n2]
      rfl
    · rw [n1, n2]
      rfl⟩⟩
theorem xt_dnotin (hu : X.A.units + 1 < cLine) (ha : XE X CS a δ (.d (.int i)) δ1) (hb : XE X CS b δ1 r δ2) (hc : DicC δ2 r kvs) (hm : behindInMarks .NotIn b = false := by rfl) : XT X CS (.Compare a [.NotIn] [b] pos) δ (!(kvs.lookup i).isSome) δ2 :=
  pt_weak (pt_cmp (pc_dnotin hu ha hb) hm) fun σ H Q ⟨A, B, s, k⟩ => ⟨A, B, s, fun v H1 e1 s1 q1 => ⟨A, B, s1, fun u H2 e2 s2 q2 => by
    have e3 : v = .int i := q1
    subst e3
    obtain ⟨l, kv, e, h1, h2⟩ := hc.at s2 q2
    refine ⟨l, valV kv (Sum.inl i), e, DGet.k (k := Sum.inl i) h1, _, ?_, k H2 (e1.trans e2) s2⟩
    rcases h2.look i with ⟨n1, n2⟩ | ⟨d, v, n1, n2, _⟩
    · rw [n1, n2]
      rfl
    · rw [n1, n2]
      rfl⟩⟩
theorem xe_dget (hu : X.A.units + 1 < cLine) (ha : XE X CS a δ r δ1) (hb : XE X CS b δ1 (.d (.int i)) δ2) (hc : DicC δ2 r kvs) (hx : kvs.lookup i = some x) (hs : NoSl b := by intro _ _; rfl) : XE X CS (.Subscript a b pos) δ (.d x) δ2 :=
  pe_weak (pe_dget hu ha hb hs) fun σ H Q ⟨A, B, s, k⟩ => ⟨A, B, s, fun v H1 e1 s1 q1 => ⟨A, B, s1, fun u H2 e2 s2 q2 => by
    have e3 : u = .int i := q2
    subst e3
    obtain ⟨l, kv, e, h1, h2⟩ := hc.at s2 (q1.step s e2)
    rcases h2.look i with ⟨n1, n2⟩ | ⟨d, w, n1, n2, n3⟩
    · rw [hx] at n1
      cases n1
    · rw [hx] at n1
      cases n1
      exact ⟨l, w, e, by rw [← n2]; exact DGet.k (k := Sum.inl i) h1, k _ H2 (e1.trans e2) s2 n3⟩⟩⟩

/-! ### sorted -/
theorem xe_sorted {ns ms : List Int} (C : Ctx X sc N vs ls gs) (k : Nat) (hk : gs[k]? = some "sorted") (ha : XE X CS a δ r δ1) (hc : LstC δ1 r (ns.map D.int)) (h1 : ms.Perm ns) (h2 : ms.Pairwise (· ≤ ·)) (hs : starEach [a] X.env = (false, eval a X.env) :: starEach [] X.env := by rfl) :
    XE X CS (.Call (.Name "sorted" p2) [a] [] pos) δ (.n (.lst (ms.map D.int))) δ1 :=
  xe_callB C k hk cr_sortedI C.glb.sorted (by decide +kernel) (xa_cons ha xa_nil hs) (fun A B σ H0 H ws Q s t q kk => by
    obtain ⟨v, e, q1⟩ := RRs.one q
    obtain ⟨p, us, e2, g1, g2⟩ := hc.at' t s q1
    have e3 := g2.ints
    subst e3
    refine ⟨p, ns, by rw [e, e2], SqL.of g1, fun ns' n z1 z2 hn => kk _ _ (same_new hn) ?_⟩
    have e4 : ns' = ms := List.Perm.eq_of_pairwise (le := fun a b : Int => a ≤ b) (fun _ _ _ _ p q => Int.le_antisymm p q) z2 h2 (z1.trans h1.symm)
    rw [e4]
    exact rr_newL (A' := Un2 A B) hn (LFs_ints _) (Reps.of_ints _)) (he := hs)
theorem xe_sortedD {ms : List Int} (C : Ctx X sc N vs ls gs) (k : Nat) (hk : gs[k]? = some "sorted") (ha : XE X CS a δ r δ1) (hc : DicC δ1 r kvs) (h64 : kvs.length < 64) (h1 : ms.Perm (kvs.map (·.1))) (h2 : ms.Pairwise (· ≤ ·)) (hs : starEach [a] X.env = (false, eval a X.env) :: starEach [] X.env := by rfl) :
    XE X CS (.Call (.Name "sorted" p2) [a] [] pos) δ (.n (.lst (ms.map D.int))) δ1 :=
  xe_callB C k hk (call_sortedDI C.calm) C.glb.sorted (by decide +kernel) (xa_cons ha xa_nil hs) (fun A B σ H0 H ws Q s t q kk => by
    obtain ⟨v, e, q1⟩ := RRs.one q
    obtain ⟨p, us, e2, g1, g2⟩ := hc.at s q1
    refine ⟨p, us, kvs.map (·.1), by rw [e, e2], .inl g1, by rw [g2.1, List.map_map]; rfl, by rw [List.length_map]; exact h64, fun ns' n z1 z2 hn => kk _ _ (same_new hn) ?_⟩
    have e4 : ns' = ms := List.Perm.eq_of_pairwise (le := fun a b : Int => a ≤ b) (fun _ _ _ _ p q => Int.le_antisymm p q) z2 h2 (z1.trans h1.symm)
    rw [e4]
    exact rr_newL (A' := Un2 A B) hn (LFs_ints _) (Reps.of_ints _)) (he := hs)
end
end K06
/-! K3: statements by stores. -/
namespace K06
open PySem PySem.Spec L2

section
variable {CS : Addr} {H H' H1 H2 : Hp} {A A1 : AP1} {B : Bo}
mutual
/-- data stays data behind a step that brings new addresses under one's own -/
theorem Rep.ext (e : Ext A B H A1 H1) : ∀ (d : D) (v : V), Rep CS H (Un2 A B) d v → Rep CS H1 (Un2 A1 B) d v
  | .non, v, h => h
  | .bl _, v, h => h
  | .int _, v, h => h
  | .str _, v, h => h
  | .tup ds, v, h => by
    obtain ⟨a, vs, e1, h1, h2⟩ := h
    exact ⟨a, vs, e1, e.tup a vs h1, Reps.ext e ds vs h2⟩
  | .lst ds, v, h => by
    obtain ⟨a, vs, e1, n, h1, h2⟩ := h
    exact ⟨a, vs, e1, Ext.avoid e n (by rw [h1]; simp), e.out a _ (fun z => n (.inl z)) h1, Reps.ext e ds vs h2⟩
  | .std c hh ds, v, h => by
    obtain ⟨a, dx, t, vs, e1, n, h1, h2, h3⟩ := h
    exact ⟨a, dx, t, vs, e1, Ext.avoid e n (by rw [h1]; simp), e.out a _ (fun z => n (.inl z)) h1, e.tup t vs h2, Reps.ext e ds vs h3⟩
  | .adr _, v, h => h
  | .ty _, v, h => h
  | .obj f c oc, v, h => by
    obtain ⟨e1, n, t, h2⟩ := h
    exact ⟨e1, Ext.avoid e n (by rw [h2]; simp), t, e.out' c _ (fun z => n (.inl z)) (.inr t) h2⟩
theorem Reps.ext (e : Ext A B H A1 H1) : ∀ (ds : List D) (vs : List V), Reps CS H (Un2 A B) ds vs → Reps CS H1 (Un2 A1 B) ds vs
  | [], vs, h => h
  | d :: ds, vs, h => by
    obtain ⟨v, r, e1, h1, h2⟩ := h
    exact ⟨v, r, e1, Rep.ext e d v h1, Reps.ext e ds r h2⟩
theorem Ext.avoid (e : Ext A B H A1 H1) {a : Addr} (n : ¬ Un2 A B a) (t : H a ≠ none) : ¬ Un2 A1 B a := fun z => by
  rcases z with (z | z) | z
  · rcases e.new a z with y | y
    · exact n (.inl (.inl y))
    · exact t y
  · exact n (.inl (.inr z))
  · exact n (.inr z)
end
end

/-! ### what is wanted behind a statement -/
structure Post where
  nx : Sto → Prop
  rt : Sto → D → Prop
  bk : Sto → Prop := fun _ => False
  ct : Sto → Prop := fun _ => False
/-- what a result may not lean on -/
abbrev Av (A : AP1) (H : Hp) : AP1 := fun a => H a ≠ none ∧ ¬ A a
def tS (CS : Addr) (δ : Sto) (P : Post) : TS := fun D σ H => ∃ A B, SR CS A B σ H δ ∧
  (∀ σ' H' A' δ', P.nx δ' → Ext A B H A' H' → SR CS A' B σ' H' δ' → D.nx σ' H') ∧
  (∀ σ' H' A' δ' d v, P.rt δ' d → Ext A B H A' H' → SR CS A' B σ' H' δ' → Rep CS H' (Av A H) d v → D.rt v H') ∧
  (∀ σ' H' A' δ', P.bk δ' → Ext A B H A' H' → SR CS A' B σ' H' δ' → D.bk σ' H') ∧
  (∀ σ' H' A' δ', P.ct δ' → Ext A B H A' H' → SR CS A' B σ' H' δ' → D.ct σ' H')
variable {X : Cx} {CS : Addr} {sc : Scope} {N : List Str} {vs ls : List Nat} {gs : List Str}
abbrev XS (X : Cx) (CS : Addr) (st : Stmt) (δ : Sto) (P : Post) : Prop := PS X st (tS CS δ P)
abbrev XSs (X : Cx) (CS : Addr) (st : List Stmt) (δ : Sto) (P : Post) : Prop := PSs X st (tS CS δ P)
theorem ps_weak {st : Stmt} {t t' : TS} (h : PS X st t) (w : ∀ D σ H, t' D σ H → t D σ H) : PS X st t' := ⟨fun pins s σ H D I q => h.run pins s σ H D I (w D σ H q)⟩
theorem pss_weak {st : List Stmt} {t t' : TS} (h : PSs X st t) (w : ∀ D σ H, t' D σ H → t D σ H) : PSs X st t' := ⟨fun pins s σ H D I q => h.run pins s σ H D I (w D σ H q)⟩
theorem pss_ex {ι : Type} {p : ι → Prop} {st : List Stmt} {t : ι → TS} (h : ∀ i, p i → PSs X st (t i)) : PSs X st (fun D σ H => ∃ i, p i ∧ t i D σ H) := ⟨fun pins s σ H D I ⟨i, hi, q⟩ => (h i hi).run pins s σ H D I q⟩
theorem ps_ex {ι : Type} {p : ι → Prop} {st : Stmt} {t : ι → TS} (h : ∀ i, p i → PS X st (t i)) : PS X st (fun D σ H => ∃ i, p i ∧ t i D σ H) := ⟨fun pins s σ H D I ⟨i, hi, q⟩ => (h i hi).run pins s σ H D I q⟩

section
variable {a b c e : Expr} {es : List Expr} {pos p2 : Pos} {δ δ1 δ2 δ3 : Sto} {x y z : D} {r r' r1 r2 : Res} {ds ds' es' : List D} {rs : List Res} {i j : Int} {st : Stmt} {rest body orelse : List Stmt} {P Q : Post} {Mid : Sto → Prop}
section
variable {A A1 A2 : AP1} {B : Bo} {H H1 H2 : Hp} {σ σ1 : L2.St} {v : V}
theorem Av.back (e : Ext A B H A1 H1) : ∀ a, Av A H a → Av A1 H1 a := fun a z => ⟨e.there a z.1, fun y => by
  rcases e.new a y with q | q
  · exact z.2 q
  · exact z.1 q⟩
/-- from a step: what is wanted is wanted from there on -/
theorem tS_step {D : Ends} (e : Ext A B H A1 H1) (s1 : SR CS A1 B σ1 H1 δ1)
    (k : (∀ σ' H' A' δ', P.nx δ' → Ext A B H A' H' → SR CS A' B σ' H' δ' → D.nx σ' H') ∧
      (∀ σ' H' A' δ' d v, P.rt δ' d → Ext A B H A' H' → SR CS A' B σ' H' δ' → Rep CS H' (Av A H) d v → D.rt v H') ∧
      (∀ σ' H' A' δ', P.bk δ' → Ext A B H A' H' → SR CS A' B σ' H' δ' → D.bk σ' H') ∧
      (∀ σ' H' A' δ', P.ct δ' → Ext A B H A' H' → SR CS A' B σ' H' δ' → D.ct σ' H')) : tS CS δ1 P D σ1 H1 :=
  ⟨A1, B, s1, fun σ' H' A' δ' p e' s' => k.1 σ' H' A' δ' p (e.trans e') s', fun σ' H' A' δ' d v p e' s' q => k.2.1 σ' H' A' δ' d v p (e.trans e') s' (Rep.anti (Av.back e) d v q),
    fun σ' H' A' δ' p e' s' => k.2.2.1 σ' H' A' δ' p (e.trans e') s', fun σ' H' A' δ' p e' s' => k.2.2.2 σ' H' A' δ' p (e.trans e') s'⟩
end

theorem xss_nil (h : P.nx δ) : XSs X CS [] δ P := pss_weak pss_nil fun D σ H ⟨A, B, s, k⟩ => k.1 σ H A δ h Ext.refl s
/-- a statement, then the rest from what it reaches -/
theorem xss_cons (h1 : XS X CS st δ { P with nx := Mid }) (h2 : ∀ δ', Mid δ' → XSs X CS rest δ' P) : XSs X CS (st :: rest) δ P :=
  pss_weak (pss_cons h1 (pss_ex (p := Mid) h2)) fun D σ H ⟨A, B, s, k⟩ =>
    ⟨A, B, s, fun σ' H' A' δ' m e s' => ⟨δ', m, tS_step e s' k⟩, k.2.1, k.2.2.1, k.2.2.2⟩
theorem xss_never (h : False) : XSs X CS rest δ P := h.elim
theorem xs_weak {P' : Post} (h : XS X CS st δ P) (n : ∀ δ', P.nx δ' → P'.nx δ') (r : ∀ δ' d, P.rt δ' d → P'.rt δ' d) (b : ∀ δ', P.bk δ' → P'.bk δ') (c : ∀ δ', P.ct δ' → P'.ct δ') : XS X CS st δ P' :=
  ps_weak h fun D σ H ⟨A, B, s, k⟩ => ⟨A, B, s, fun σ' H' A' δ' p => k.1 σ' H' A' δ' (n δ' p), fun σ' H' A' δ' d v p => k.2.1 σ' H' A' δ' d v (r δ' d p), fun σ' H' A' δ' p => k.2.2.1 σ' H' A' δ' (b δ' p), fun σ' H' A' δ' p => k.2.2.2 σ' H' A' δ' (c δ' p)⟩
theorem xss_weak {P' : Post} (h : XSs X CS rest δ P) (n : ∀ δ', P.nx δ' → P'.nx δ') (r : ∀ δ' d, P.rt δ' d → P'.rt δ' d) (b : ∀ δ', P.bk δ' → P'.bk δ') (c : ∀ δ', P.ct δ' → P'.ct δ') : XSs X CS rest δ P' :=
  pss_weak h fun D σ H ⟨A, B, s, k⟩ => ⟨A, B, s, fun σ' H' A' δ' p => k.1 σ' H' A' δ' (n δ' p), fun σ' H' A' δ' d v p => k.2.1 σ' H' A' δ' d v (r δ' d p), fun σ' H' A' δ' p => k.2.2.1 σ' H' A' δ' (b δ' p), fun σ' H' A' δ' p => k.2.2.2 σ' H' A' δ' (c δ' p)⟩
/-- what is known may be less -/
theorem xss_less (h : XSs X CS rest δ1 P) (hl : δ1.length = δ.length) (w : ∀ (i : Nat) (s : Slot), δ1[i]? = some (some s) → δ[i]? = some (some s)) : XSs X CS rest δ P :=
  pss_weak h fun D σ H ⟨A, B, s, k⟩ => ⟨A, B, s.less hl w, k⟩

/-! ### return, break, continue, pass -/
theorem xss_retn (h : XE X CS e δ (.n x) δ1) (hp : P.rt δ1 x) : XSs X CS (.Return (some e) pos :: rest) δ P :=
  pss_weak (pss_cons (ps_ret h) pss_never) fun D σ H ⟨A, B, s, k⟩ => ⟨A, B, s, fun v H1 e1 s1 q1 => k.2.1 σ H1 A δ1 x v hp e1 s1 (Rep.anti (fun a z => z.1) x v q1)⟩
theorem xss_ret (h : XE X CS e δ (.d x) δ1) (hp : P.rt δ1 x) (l : LF x = true) : XSs X CS (.Return (some e) pos :: rest) δ P :=
  pss_weak (pss_cons (ps_ret h) pss_never) fun D σ H ⟨A, B, s, k⟩ => ⟨A, B, s, fun v H1 e1 s1 q1 => k.2.1 σ H1 A δ1 x v hp e1 s1 (Rep.lf x v l q1)⟩
/-- a list of one's own is given out -/
theorem xss_retm {l : Addr} {k : Nat} (h : XE X CS e δ (.m l) δ1) (hk : δ1[k]? = some (some (.ml l ds))) (hp : P.rt δ1 (.lst ds)) (f : LFs ds = true) : XSs X CS (.Return (some e) pos :: rest) δ P :=
  pss_weak (pss_cons (ps_ret h) pss_never) fun D σ H ⟨A, B, s, kk⟩ => ⟨A, B, s, fun v H1 e1 s1 q1 => by
    obtain ⟨w, _, e2, hA, _, us, h1, h2⟩ := s1.sl k _ hk
    refine kk.2.1 σ H1 A δ1 _ v hp e1 s1 ⟨l, us, q1, fun z => z.2 hA, h1, Reps.lf _ _ f h2⟩⟩
theorem xss_brk (h : P.bk δ) : XSs X CS (.Break pos :: rest) δ P :=
  pss_weak (pss_cons ps_break pss_never) fun D σ H ⟨A, B, s, k⟩ => k.2.2.1 σ H A δ h Ext.refl s
theorem xss_pass (h : XSs X CS rest δ P) : XSs X CS (.Pass pos :: rest) δ P :=
  pss_weak (pss_cons ps_pass h) fun D σ H q => q

/-! ### assignments -/
/-- name = data -/
theorem xss_set (C : Ctx X sc N vs ls gs) (k : Nat) {nm : Str} {p' : Pos} (hi : N[k]? = some nm) (hl : ls.contains k = true) (h : XE X CS e δ (.d x) δ1) (h2 : XSs X CS rest (δ1.set k (some (.im x))) P) (hlen : k < δ1.length) (hs : swapsWith e (some (.Name nm p')) pos.line X.env = pure false := by rfl) :
    XSs X CS (.Assign [.Name nm p'] e pos :: rest) δ P := by
  obtain ⟨l1, l2⟩ := C.loc k nm hl hi
  exact pss_weak (pss_cons (ps_set (i := k) (by rw [C.hN]; exact C.nd) (by rw [C.hN]; exact hi) l1 h hs l2) h2) fun D σ H ⟨A, B, s, kk⟩ =>
    ⟨A, B, s, fun v H1 e1 s1 q1 => tS_step (P := P) e1 (s1.set hlen q1) kk⟩
/-- a new address comes under one's own, its thing in the slot k -/
theorem slot_nc {A : AP1} {B : Bo} {H : Hp} {l : Addr} {t : Slot} {v : V} (ht : t.addr = some l) (h : SlotOk CS A B H t v) (q : Str) : H l ≠ some (LamX.CodeO l q) := fun z => by
  cases t with
  | im d => cases ht
  | ml p ds =>
    cases ht
    obtain ⟨_, _, _, us, h1, _⟩ := h
    rw [h1] at z
    exact ((by intro _ _ z; unfold LamX.CodeO at z; cases z) : NC (.lst us)) _ _ (Option.some.inj z)
  | md p ds =>
    cases ht
    obtain ⟨_, _, _, us, h1, _⟩ := h
    rw [h1] at z
    exact ((by intro _ _ z; unfold LamX.CodeO at z; cases z) : NC (.dK us)) _ _ (Option.some.inj z)
  | hd p c g =>
    cases ht
    obtain ⟨_, _, _, h1, _⟩ := h
    rw [h1] at z
    exact ((by intro _ _ z; unfold LamX.CodeO at z; cases z) : NC (.lst _)) _ _ (Option.some.inj z)
  | ob p fs =>
    cases ht
    obtain ⟨_, _, _, dx, fv, h1, _⟩ := h
    rw [h1] at z
    exact ((by intro _ _ z; unfold LamX.CodeO at z; cases z) : NC (.ins _ _ _)) _ _ (Option.some.inj z)
  | ex p ks Φ =>
    cases ht
    obtain ⟨_, _, _, us, h1, hn, _⟩ := h
    rw [h1] at z
    exact hn _ _ (Option.some.inj z)
  | tb ts => cases ht
theorem SR.bind {A : AP1} {B : Bo} {σ : L2.St} {H H1 : Hp} {l : Addr} {k : Nat} {t : Slot} (s0 : SR CS A B σ H1 δ) (s : SR CS A B σ H δ1) (he : Ext A B H1 A H) (cg : Cng δ δ1) (hH : H1 l = none) (hm : Mut (H l)) (hk : k < δ1.length) (ht : t.addr = some l)
    (hn : SlotOk CS (fun a => A a ∨ a = l) B H t (.ref l)) : Ext A B H1 (fun a => A a ∨ a = l) H ∧ SR CS (fun a => A a ∨ a = l) B (σ.set k (some (.ref l))) H (δ1.set k (some t)) := by
  have nl : ¬ Un2 A B l := fun z => s0.tracked z hH
  have hs : k < σ.length := by
    rw [s.len]
    exact hk
  have ex : Ext A B H1 (fun a => A a ∨ a = l) H := ⟨he.out', fun a z => .inl z, fun a z => by
    rcases z with z | z
    · exact .inl z
    · exact .inr (z ▸ hH), he.there, he.tup⟩
  have s2 : SR CS (fun a => A a ∨ a = l) B σ H δ1 := s.own nl hm (slot_nc ht hn) fun i u v e ev h => by
    cases u with
    | im d =>
      obtain ⟨v', e1, e2⟩ := s0.sl i _ (cg.im i d e)
      rw [ev] at e1
      cases e1
      exact Rep.ext ex d v e2
    | ml p q =>
      obtain ⟨h1, h2, lf, us, h3, h4⟩ := h
      exact ⟨h1, .inl h2, lf, us, h3, Reps.lf _ _ lf h4⟩
    | md p q =>
      obtain ⟨h1, h2, lf, us, h3, h4, h5⟩ := h
      exact ⟨h1, .inl h2, lf, us, h3, h4, Reps.lf _ _ lf h5⟩
    | ob p q =>
      obtain ⟨h1, h2, lf, dx, fv, h3, h4, h5⟩ := h
      exact ⟨h1, .inl h2, lf, dx, fv, h3, h4, Reps.lf _ _ lf h5⟩
    | ex p ks Φ =>
      obtain ⟨h1, h2, lf, us, h3, h4, h5⟩ := h
      exact ⟨h1, .inl h2, lf, us, h3, h4, Reps.lf _ _ lf h5⟩
    | tb ts => exact h
    | hd p c g =>
      obtain ⟨g', e'⟩ := cg.hd i p c g e
      obtain ⟨v', _, f1, f2, f3, f4, f5⟩ := s0.sl i _ e'
      obtain ⟨h1, h2, h3, h4, h5⟩ := h
      refine ⟨h1, ?_, Ext.avoid (CS := CS) ex f3 (by rw [f5]; simp), h4, h5⟩
      rcases h2 with z | z
      · exact .inl (.inl z)
      · exact .inr z
  have addr_ne : ∀ (j : Nat) (u : Slot), δ1[j]? = some (some u) → u.addr ≠ some l := fun j u e z => by
    obtain ⟨v, _, h⟩ := s.sl j u e
    cases u with
    | im d => cases z
    | ml p q =>
      cases z
      exact nl (.inl (.inl h.2.1))
    | md p q =>
      cases z
      exact nl (.inl (.inl h.2.1))
    | ob p q =>
      cases z
      exact nl (.inl (.inl h.2.1))
    | ex p ks Φ =>
      cases z
      exact nl (.inl (.inl h.2.1))
    | tb ts => cases z
    | hd p c g =>
      cases z
      exact nl (.inl h.2.1)
  refine ⟨ex, by simp [s.len], s2.muts, fun j u e => ?_, fun j m u u' q e1 e2 a1 a2 => ?_, s2.tabs⟩
  · by_cases hj : j = k
    · subst hj
      rw [List.getElem?_set_self hk] at e
      cases e
      exact ⟨.ref l, by rw [List.getElem?_set_self hs], hn⟩
    · rw [List.getElem?_set_ne (Ne.symm hj)] at e
      obtain ⟨v, h1, h2⟩ := s2.sl j u e
      exact ⟨v, by rw [List.getElem?_set_ne (Ne.symm hj)]; exact h1, h2⟩
  · by_cases hj : j = k
    · by_cases hm : m = k
      · rw [hj, hm]
      · subst hj
        rw [List.getElem?_set_self hk] at e1
        cases e1
        rw [List.getElem?_set_ne (Ne.symm hm)] at e2
        exact (addr_ne m u' e2 (a2.trans (a1.symm.trans ht))).elim
    · rw [List.getElem?_set_ne (Ne.symm hj)] at e1
      by_cases hm : m = k
      · subst hm
        rw [List.getElem?_set_self hk] at e2
        cases e2
        exact (addr_ne j u e1 (a1.trans (a2.symm.trans ht))).elim
      · rw [List.getElem?_set_ne (Ne.symm hm)] at e2
        exact s.sep j m u u' q e1 e2 a1 a2
/-- name = a new list, from now on one's own -/
theorem xss_setL (C : Ctx X sc N vs ls gs) (k : Nat) {nm : Str} {p' : Pos} (hi : N[k]? = some nm) (hl : ls.contains k = true) (h : XE X CS e δ (.n (.lst ds)) δ1) (f : LFs ds = true) (h2 : ∀ l, XSs X CS rest (δ1.set k (some (.ml l ds))) P) (hlen : k < δ1.length) (cg : Cng δ δ1 := by exact Cng.refl)
    (hs : swapsWith e (some (.Name nm p')) pos.line X.env = pure false := by rfl) : XSs X CS (.Assign [.Name nm p'] e pos :: rest) δ P := by
  obtain ⟨l1, l2⟩ := C.loc k nm hl hi
  exact pss_weak (pss_cons (ps_set (i := k) (by rw [C.hN]; exact C.nd) (by rw [C.hN]; exact hi) l1 h hs l2) (pss_ex (ι := Addr) (p := fun _ => True) fun l _ => h2 l)) fun D σ H ⟨A, B, s, kk⟩ =>
    ⟨A, B, s, fun v H1 e1 s1 q1 => by
      obtain ⟨l, us, ev, nl, h1, h3⟩ := q1
      subst ev
      have hH : H l = none := by
        cases q : H l with
        | none => rfl
        | some o => exact absurd (show H l ≠ none by rw [q]; simp) nl
      obtain ⟨x1, x2⟩ := SR.bind (t := .ml l ds) s s1 e1 cg hH (by rw [h1]; trivial) hlen rfl ⟨rfl, .inr rfl, f, us, h1, Reps.lf _ _ f h3⟩
      exact ⟨l, trivial, tS_step (P := P) x1 x2 kk⟩⟩
/-- name = {} -/
theorem xss_setD (C : Ctx X sc N vs ls gs) (k : Nat) {nm : Str} {p' p3 : Pos} (hi : N[k]? = some nm) (hl : ls.contains k = true) (h2 : ∀ l, XSs X CS rest (δ.set k (some (.md l []))) P) (hlen : k < δ.length) (hs : swapsWith (.Dict [] [] p3) (some (.Name nm p')) pos.line X.env = pure false := by rfl) : XSs X CS (.Assign [.Name nm p'] (.Dict [] [] p3) pos :: rest) δ P := by
  obtain ⟨l1, l2⟩ := C.loc k nm hl hi
  exact pss_weak (pss_cons (ps_set (i := k) (by rw [C.hN]; exact C.nd) (by rw [C.hN]; exact hi) l1 pe_dnewK hs l2) (pss_ex (ι := Addr) (p := fun _ => True) fun l _ => h2 l)) fun D σ H ⟨A, B, s, kk⟩ => fun l hH => by
    have sm : Same H (upd H l (.dK [])) := same_new hH
    obtain ⟨x1, x2⟩ := SR.bind (t := .md l []) s (s.same sm) (Same.ext sm) Cng.refl hH (by rw [upd_same]; trivial) hlen rfl ⟨rfl, .inr rfl, rfl, [], upd_same, rfl, rfl⟩
    exact ⟨l, trivial, tS_step (P := P) x1 x2 kk⟩
/-- name += int -/
theorem xss_aug {op : Operator} {f : Int → Int → Int} (C : Ctx X sc N vs ls gs) (k : Nat) {nm : Str} {p' : Pos} (hi : N[k]? = some nm) (hl : ls.contains k = true) (ho : PIp X op (ipI f)) (hk : δ1[k]? = some (some (.im (.int i)))) (hk0 : δ[k]? = some (some (.im (.int i)))) (h : XE X CS e δ (.d (.int j)) δ1)
    (h2 : XSs X CS rest (δ1.set k (some (.im (.int (f i j))))) P) : XSs X CS (.AugAssign (.Name nm p') op e pos :: rest) δ P := by
  obtain ⟨l1, l2⟩ := C.loc k nm hl hi
  exact pss_weak (pss_cons (ps_aug (i := k) (by rw [C.hN]; exact C.nd) (by rw [C.hN]; exact hi) l1 h ho l2) h2) fun D σ H ⟨A, B, s, kk⟩ => by
    obtain ⟨v, e1, e2⟩ := s.sl k _ hk0
    have e3 : v = .int i := e2
    subst e3
    refine ⟨.int i, e1, A, B, s, fun u H1 x1 s1 q1 => ⟨i, j, rfl, q1, ?_⟩⟩
    exact tS_step (P := P) x1 (s1.set (d := .int (f i j)) (List.getElem?_eq_some_iff.mp hk).1 rfl) kk

/-! ### if -/
theorem xss_if {p : Bool} (ht : XT X CS c δ p δ1) (h1 : p = true → XSs X CS body δ1 { P with nx := Mid }) (h0 : p = false → XSs X CS orelse δ1 { P with nx := Mid }) (h2 : ∀ δ', Mid δ' → XSs X CS rest δ' P) : XSs X CS (.If c body orelse pos :: rest) δ P := by
  cases p with
  | true =>
    exact pss_weak (pss_cons (ps_if ht (h1 rfl) pss_never) (pss_ex (p := Mid) h2)) fun D σ H ⟨A, B, s, k⟩ => ⟨A, B, s, fun H1 e1 s1 => iteT (tS_step (P := { P with nx := Mid }) (D := { D with nx := _ }) e1 s1 ⟨fun σ' H' A' δ' m e s' => ⟨δ', m, tS_step e s' k⟩, k.2.1, k.2.2.1, k.2.2.2⟩)⟩
  | false =>
    exact pss_weak (pss_cons (ps_if ht pss_never (h0 rfl)) (pss_ex (p := Mid) h2)) fun D σ H ⟨A, B, s, k⟩ => ⟨A, B, s, fun H1 e1 s1 => iteF (tS_step (P := { P with nx := Mid }) (D := { D with nx := _ }) e1 s1 ⟨fun σ' H' A' δ' m e s' => ⟨δ', m, tS_step e s' k⟩, k.2.1, k.2.2.1, k.2.2.2⟩)⟩
/-- the branch isn't taken; it leaves -/
theorem xss_if0 {p : Bool} (ht : XT X CS c δ p δ1) (h1 : p = true → XSs X CS body δ1 { P with nx := fun _ => False }) (h2 : p = false → XSs X CS rest δ1 P) : XSs X CS (.If c body [] pos :: rest) δ P :=
  xss_if (Mid := fun δ' => δ' = δ1 ∧ p = false) ht (fun q => xss_weak (h1 q) (fun _ z => z.elim) (fun _ _ z => z) (fun _ z => z) fun _ z => z) (fun q => xss_nil ⟨rfl, q⟩) fun δ' ⟨e, q⟩ => e ▸ h2 q
/-- both branches end in one store, or leave -/
theorem xss_if1 {p : Bool} (ht : XT X CS c δ p δ1) (h1 : p = true → XSs X CS body δ1 { P with nx := fun δ' => δ' = δ2 }) (h0 : p = false → XSs X CS orelse δ1 { P with nx := fun δ' => δ' = δ2 }) (h2 : XSs X CS rest δ2 P) : XSs X CS (.If c body orelse pos :: rest) δ P :=
  xss_if (Mid := fun δ' => δ' = δ2) ht h1 h0 fun δ' e => e ▸ h2

/-! ### targets -/
def gX (CS : Addr) (ws : List Nat) (d : D) (δ δ' : Sto) : TG := fun v σ H Q => ∃ A B, SR CS A B σ H δ ∧ Rep CS H (Un2 A B) d v ∧ ∀ σ', σ'.length = σ.length → (∀ i, i ∉ ws → σ'[i]? = σ[i]?) → SR CS A B σ' H δ' → Q σ' H
def gXs (CS : Addr) (ws : List Nat) (ds : List D) (δ δ' : Sto) : TGs := fun vs σ H Q => ∃ A B, SR CS A B σ H δ ∧ Reps CS H (Un2 A B) ds vs ∧ ∀ σ', σ'.length = σ.length → (∀ i, i ∉ ws → σ'[i]? = σ[i]?) → SR CS A B σ' H δ' → Q σ' H
abbrev XG (X : Cx) (CS : Addr) (tg : Expr) (ws : List Nat) (d : D) (δ δ' : Sto) : Prop := PG X tg (gX CS ws d δ δ')
abbrev XGs (X : Cx) (CS : Addr) (tgs : List Expr) (ws : List Nat) (ds : List D) (δ δ' : Sto) : Prop := PGs X tgs (gXs CS ws ds δ δ')
theorem pg_weak {tg : Expr} {t t' : TG} (h : PG X tg t) (w : ∀ v σ H Q, t' v σ H Q → t v σ H Q) : PG X tg t' := ⟨fun pins s σ H v u Q I r q => h.run pins s σ H v u Q I r (w v σ H Q q)⟩
theorem pgs_weak {tg : List Expr} {t t' : TGs} (h : PGs X tg t) (w : ∀ v σ H Q, t' v σ H Q → t v σ H Q) : PGs X tg t' := ⟨fun pins s σ H v u Q I r q => h.run pins s σ H v u Q I r (w v σ H Q q)⟩
theorem xg_n (C : Ctx X sc N vs ls gs) (k : Nat) {nm : Str} (hi : N[k]? = some nm) (hl : ls.contains k = true) (hlen : k < δ.length) : XG X CS (.Name nm pos) [k] x δ (δ.set k (some (.im x))) := by
  obtain ⟨l1, l2⟩ := C.loc k nm hl hi
  exact pg_weak (pg_name (i := k) (by rw [C.hN]; exact C.nd) (by rw [C.hN]; exact hi) l1 l2) fun v σ H Q ⟨A, B, s, r, q⟩ => q _ (by simp) (fun m hm => List.getElem?_set_ne (fun z => hm (by simp [z]))) (s.set hlen r)
theorem xgs_nil : XGs X CS [] [] [] δ δ := pgs_weak pgs_nil fun v σ H Q ⟨A, B, s, r, q⟩ => ⟨r, q σ rfl (fun _ _ => rfl) s⟩
theorem xgs_cons {tg : Expr} {tgs : List Expr} {w1 w2 : List Nat} (h1 : XG X CS tg w1 x δ δ1) (h2 : XGs X CS tgs w2 ds δ1 δ2) (hs : (assignEach (tg :: tgs) X.env).map (·.2) = assign tg X.env :: (assignEach tgs X.env).map (·.2) := by rfl) : XGs X CS (tg :: tgs) (w1 ++ w2) (x :: ds) δ δ2 :=
  pgs_weak (pgs_cons h1 h2 hs) fun v σ H Q ⟨A, B, s, r, q⟩ => by
    obtain ⟨u, w, e, r1, r2⟩ := r
    refine ⟨u, w, e, A, B, s, r1, fun σ' l1 f s' => ⟨A, B, s', r2, fun σ2 l2 f2 s2 => q σ2 (l2.trans l1) (fun m hm => ?_) s2⟩⟩
    exact (f2 m (fun z => hm (List.mem_append_right _ z))).trans (f m (fun z => hm (List.mem_append_left _ z)))
theorem xg_t (C : Ctx X sc N vs ls gs) {tgs : List Expr} {k n : Nat} {ws : List Nat} (h : XGs X CS tgs ws ds δ δ1) (hl : ds.length = n) (hn : (assignEach tgs X.env).length = n := by rfl) (hst : (assignEach tgs X.env).findIdx? (·.1) = none := by rfl) : XG X CS (.Tuple tgs k pos) ws (.tup ds) δ δ1 :=
  pg_weak (pg_tup C.calm h hn hst) fun v σ H Q ⟨A, B, s, r, q⟩ => by
    obtain ⟨p, us, e, h1, h2⟩ := r
    exact ⟨p, us, e, SqT.of h1, by rw [h2.len]; exact hl, A, B, s, h2, q⟩
/-- target = value -/
theorem xss_asg {tg : Expr} {ws : List Nat} (h : XE X CS e δ (.d x) δ1) (hg : XG X CS tg ws x δ1 δ2) (h2 : XSs X CS rest δ2 P) (hs : swapsWithSole [tg] e pos.line X.env = pure false := by rfl) (hw : swappedStores [tg] e X.env = pure none := by rfl)
    (h1 : (assignEach [tg] X.env).map (·.2) = [assign tg X.env] := by rfl) : XSs X CS (.Assign [tg] e pos :: rest) δ P :=
  pss_weak (pss_cons (ps_asg h hg hs hw h1) h2) fun D σ H ⟨A, B, s, kk⟩ => ⟨A, B, s, fun v H1 e1 s1 q1 => ⟨A, B, s1, q1, fun σ' _ _ s' => tS_step (P := P) e1 s' kk⟩⟩
end
end K06
/-! K4: stores into lists, dicts, the hand; methods that change a list. -/
namespace K06
open PySem PySem.Spec L2
variable {X : Cx} {CS : Addr} {sc : Scope} {N : List Str} {vs ls : List Nat} {gs : List Str}
section
variable {a b c e : Expr} {es : List Expr} {pos p2 p3 ap cp : Pos} {δ δ1 δ2 δ3 : Sto} {x y z : D} {r r' r1 r2 : Res} {ds ds' es' : List D} {rs : List Res} {i j : Int} {st : Stmt} {rest body orelse : List Stmt} {P Q : Post} {Mid : Sto → Prop} {k : Nat} {l : Addr} {nm : Str}

section
variable {A : AP1} {B : Bo} {H : Hp} {σ : L2.St}
/-- the list of slot k is written -/
theorem ml_write {us : List V} (s : SR CS A B σ H δ) (hk : δ[k]? = some (some (.ml l ds))) (f : LFs ds' = true) (hr : Reps CS H (Un2 A B) ds' us) : Ext A B H A (upd H l (.lst us)) ∧ SR CS A B σ (upd H l (.lst us)) (δ.set k (some (.ml l ds'))) := by
  obtain ⟨v, h1, h2, hA, lf, ws, h3, h4⟩ := s.sl k _ hk
  have mt : Mut (H l) := by rw [h3]; trivial
  refine ⟨Ext.upd (.inl hA) mt, s.write hk rfl rfl h1 (.inl (.inl hA)) trivial ⟨h2, hA, f, us, upd_same, ?_⟩⟩
  exact Reps.stay (stay_upd (.inl (.inl hA)) mt) _ _ hr
theorem md_write {kv : List (Key × V)} {kvs kvs' : List (Int × D)} (s : SR CS A B σ H δ) (hk : δ[k]? = some (some (.md l kvs))) (f : LFs (kvs'.map (·.2)) = true) (hr : ReKV CS H (Un2 A B) kvs' kv) : Ext A B H A (upd H l (.dK kv)) ∧ SR CS A B σ (upd H l (.dK kv)) (δ.set k (some (.md l kvs'))) := by
  obtain ⟨v, h1, h2, hA, lf, ws, h3, h4⟩ := s.sl k _ hk
  have mt : Mut (H l) := by rw [h3]; trivial
  refine ⟨Ext.upd (.inl hA) mt, s.write hk rfl rfl h1 (.inl (.inl hA)) trivial ⟨h2, hA, f, kv, upd_same, hr.1, ?_⟩⟩
  exact Reps.stay (stay_upd (.inl (.inl hA)) mt) _ _ hr.2
theorem hd_write {p cc : Addr} {g g' : Hand} (s : SR CS A B σ H δ) (hk : δ[k]? = some (some (.hd p cc g))) (hg : g'.cells = g.cells) : Ext A B H A (upd H p (.lst (g'.vals cc))) ∧ SR CS A B σ (upd H p (.lst (g'.vals cc))) (δ.set k (some (.hd p cc g'))) := by
  obtain ⟨v, h1, h2, hA, nc, h3, h4⟩ := s.sl k _ hk
  have mt : Mut (H p) := by rw [h3]; trivial
  refine ⟨Ext.upd hA mt, s.write hk rfl rfl h1 (.inl hA) trivial ⟨h2, hA, nc, upd_same, ?_⟩⟩
  have ne : cc ≠ p := fun z => nc (z ▸ .inl hA)
  rw [upd_ne ne, hg]
  exact h4
end

/-! ### methods of a list of one's own -/
theorem xss_app (C : Ctx X sc N vs ls gs) (k : Nat) (hi : N[k]? = some nm) (hv : vs.contains k = true) (hk : δ[k]? = some (some (.ml l ds))) (he : XE X CS e δ (.d x) δ1) (hk1 : δ1[k]? = some (some (.ml l ds))) (f : LF x = true) (hz : ds.length ≤ 1000) (h2 : XSs X CS rest (δ1.set k (some (.ml l (ds ++ [x])))) P)
    (hfew : ((backTo cp (starEach [e] X.env)).all (fun x => !x.1) && (backToKw cp (keywordEach [] X.env)).all (fun x => x.1.isSome) && decide (([e] : List Expr).length + ([] : List Keyword).length + (if ([] : List Keyword).isEmpty then 0 else 1) < 30)) = true := by rfl)
    (hline : (ap.endLine == cp.line) = true := by rfl) (hs : starEach [e] X.env = (false, eval e X.env) :: starEach [] X.env := by rfl) : XSs X CS (.Expr (.Call (.Attribute (.Name nm p2) "append" ap) [e] [] cp) pos :: rest) δ P :=
  pss_weak (pss_cons (ps_expr (pe_bm PySem.F.plainAttrs_list PySem.F.slot_list_append PySem.F.type_list_append mt_append (xe_m (CS := CS) C k hi hv hk rfl) (xa_cons he xa_nil hs) rfl hfew hline hs rfl)) h2) fun D σ H ⟨A, B, s, kk⟩ => ⟨A, B, s, fun v H1 e1 s1 q1 => by
    have ev : v = .ref l := q1
    subst ev
    obtain ⟨v, g1, g2, gA, lf, us, g3, g4⟩ := s1.sl k _ hk
    refine ⟨.inl ⟨rfl, us, SqL.of g3⟩, A, B, s1, fun ws H2 e2 s2 q2 => ?_⟩
    obtain ⟨w, ew, q3⟩ := RRs.one q2
    obtain ⟨v', f1, f2, fA, lf', us', f3, f4⟩ := s2.sl k _ hk1
    refine ⟨l, us', w, rfl, ew, f3, by rw [f4.len]; exact small1000 hz, ?_⟩
    obtain ⟨x1, x2⟩ := ml_write (ds' := ds ++ [x]) s2 hk1 (by rw [LFs_app, lf']; simp [LFs, f]) (f4.app (Reps.one q3))
    exact tS_step (P := P) ((e1.trans e2).trans x1) x2 kk⟩
theorem xe_pop (C : Ctx X sc N vs ls gs) (k : Nat) (hi : N[k]? = some nm) (hv : vs.contains k = true) (hk : δ[k]? = some (some (.ml l (ds ++ [x])))) (hline : (ap.endLine == cp.line) = true := by rfl) : XE X CS (.Call (.Attribute (.Name nm p2) "pop" ap) [] [] cp) δ (.d x) (δ.set k (some (.ml l ds))) :=
  pe_weak (pe_bm0 PySem.F.plainAttrs_list PySem.F.slot_list_pop PySem.F.type_list_pop mt_pop (xe_m (CS := CS) C k hi hv hk rfl) rfl hline) fun σ H Q ⟨A, B, s, kk⟩ => ⟨A, B, s, fun v H1 e1 s1 q1 => by
    have ev : v = .ref l := q1
    subst ev
    obtain ⟨v, g1, g2, gA, lf, us, g3, g4⟩ := s1.sl k _ hk
    have hlen : us.length = ds.length + 1 := by rw [g4.len]; simp
    obtain ⟨w, h1, h2⟩ := g4.get (i := ds.length) (d := x) (by simp)
    refine ⟨.inl ⟨rfl, us, SqL.of g3⟩, l, us, w, rfl, rfl, g3, by rw [hlen]; exact h1, ?_⟩
    have lf2 : LFs ds = true ∧ LF x = true := by
      rw [LFs_app] at lf
      have := Bool.and_eq_true_iff.mp lf
      exact ⟨this.1, by simpa [LFs] using this.2⟩
    have hd : Reps CS H1 (Un2 A B) ds us.dropLast := by
      have := g4.take ds.length
      rw [List.take_left] at this
      rw [List.dropLast_eq_take, hlen]
      exact this
    obtain ⟨x1, x2⟩ := ml_write s1 hk lf2.1 hd
    refine kk w _ (e1.trans x1) x2 ?_
    exact Rep.stay (stay_upd (.inl (.inl gA)) (by rw [g3]; trivial)) x w h2⟩
theorem xe_popAt {m : Nat} (C : Ctx X sc N vs ls gs) (k : Nat) (hi : N[k]? = some nm) (hv : vs.contains k = true) (hk : δ[k]? = some (some (.ml l ds))) (he : XE X CS e δ (.d (.int (m : Nat))) δ1) (hk1 : δ1[k]? = some (some (.ml l ds))) (hm : ds[m]? = some x) (hz : ds.length ≤ 1000)
    (hfew : ((backTo cp (starEach [e] X.env)).all (fun x => !x.1) && (backToKw cp (keywordEach [] X.env)).all (fun x => x.1.isSome) && decide (([e] : List Expr).length + ([] : List Keyword).length + (if ([] : List Keyword).isEmpty then 0 else 1) < 30)) = true := by rfl)
    (hline : (ap.endLine == cp.line) = true := by rfl) (hs : starEach [e] X.env = (false, eval e X.env) :: starEach [] X.env := by rfl) : XE X CS (.Call (.Attribute (.Name nm p2) "pop" ap) [e] [] cp) δ (.d x) (δ1.set k (some (.ml l (ds.eraseIdx m)))) :=
  pe_weak (pe_bm PySem.F.plainAttrs_list PySem.F.slot_list_pop PySem.F.type_list_pop mt_popAt (xe_m (CS := CS) C k hi hv hk rfl) (xa_cons he xa_nil hs) rfl hfew hline hs rfl) fun σ H Q ⟨A, B, s, kk⟩ => ⟨A, B, s, fun v H1 e1 s1 q1 => by
    have ev : v = .ref l := q1
    subst ev
    obtain ⟨v, g1, g2, gA, lf, us, g3, g4⟩ := s1.sl k _ hk
    refine ⟨.inl ⟨rfl, us, SqL.of g3⟩, A, B, s1, fun ws H2 e2 s2 q2 => ?_⟩
    obtain ⟨w, ew, q3⟩ := RRs.one q2
    have e4 : w = .int (m : Nat) := q3
    subst e4
    obtain ⟨v', f1, f2, fA, lf', us', f3, f4⟩ := s2.sl k _ hk1
    obtain ⟨u, h1, h2⟩ := f4.get hm
    have hml : m < us'.length := (List.getElem?_eq_some_iff.mp h1).1
    have hul : us'.length ≤ 1000 := by rw [f4.len]; exact hz
    refine ⟨l, us', (m : Nat), m, u, rfl, ew, f3, by omega, by omega, (ixN_seq (j := m) ?_).1, h1, ?_⟩
    · unfold ixN
      rw [if_pos (by omega), if_pos (by omega), Int.toNat_natCast]
    · have lfe : LFs (ds.eraseIdx m) = true := LFs_all fun d hd => by
        obtain ⟨q, hq⟩ := List.mem_iff_getElem?.mp (List.mem_of_mem_eraseIdx hd)
        exact LFs_get lf' hq
      obtain ⟨x1, x2⟩ := ml_write s2 hk1 lfe (f4.erase m)
      refine kk u _ ((e1.trans e2).trans x1) x2 ?_
      exact Rep.stay (stay_upd (.inl (.inl fA)) (by rw [f3]; trivial)) x u h2⟩
/-- insert(i, e) -/
theorem xss_ins {m : Nat} {ei : Expr} (C : Ctx X sc N vs ls gs) (k : Nat) (hi : N[k]? = some nm) (hv : vs.contains k = true) (hk : δ[k]? = some (some (.ml l ds))) (he : XA X CS [ei, e] δ [.d (.int (m : Nat)), .d x] δ1) (hk1 : δ1[k]? = some (some (.ml l ds))) (f : LF x = true) (hz : ds.length ≤ 1000) (hm : m ≤ 1000) (h2 : XSs X CS rest (δ1.set k (some (.ml l (ds.take m ++ [x] ++ ds.drop m)))) P)
    (hfew : ((backTo cp (starEach [ei, e] X.env)).all (fun x => !x.1) && (backToKw cp (keywordEach [] X.env)).all (fun x => x.1.isSome) && decide (([ei, e] : List Expr).length + ([] : List Keyword).length + (if ([] : List Keyword).isEmpty then 0 else 1) < 30)) = true := by rfl)
    (hline : (ap.endLine == cp.line) = true := by rfl) (hs : starEach [ei, e] X.env = (false, eval ei X.env) :: starEach [e] X.env := by rfl) (hpl : (backTo cp (starEach [e] X.env)).any (·.1) = false := by rfl) : XSs X CS (.Expr (.Call (.Attribute (.Name nm p2) "insert" ap) [ei, e] [] cp) pos :: rest) δ P :=
  pss_weak (pss_cons (ps_expr (pe_bm PySem.F.plainAttrs_list PySem.F.slot_list_insert PySem.F.type_list_insert mt_insert (xe_m (CS := CS) C k hi hv hk rfl) he rfl hfew hline hs hpl)) h2) fun D σ H ⟨A, B, s, kk⟩ => ⟨A, B, s, fun v H1 e1 s1 q1 => by
    have ev : v = .ref l := q1
    subst ev
    obtain ⟨v, g1, g2, gA, lf, us, g3, g4⟩ := s1.sl k _ hk
    refine ⟨.inl ⟨rfl, us, SqL.of g3⟩, A, B, s1, fun ws H2 e2 s2 q2 => ?_⟩
    obtain ⟨wi, w, ew, q3, q4⟩ := RRs.two q2
    have e4 : wi = .int (m : Nat) := q3
    subst e4
    obtain ⟨v', f1, f2, fA, lf', us', f3, f4⟩ := s2.sl k _ hk1
    refine ⟨l, us', (m : Nat), w, rfl, ew, f3, by rw [f4.len]; exact small1000 hz, by omega, by omega, ?_⟩
    rw [Int.toNat_natCast]
    have lft : LFs (ds.take m ++ [x] ++ ds.drop m) = true := LFs_all fun d hd => by
      rcases List.mem_append.mp hd with hd | hd
      · rcases List.mem_append.mp hd with hd | hd
        · obtain ⟨q, hq⟩ := List.mem_iff_getElem?.mp (List.mem_of_mem_take hd)
          exact LFs_get lf' hq
        · rw [List.mem_singleton.mp hd]
          exact f
      · obtain ⟨q, hq⟩ := List.mem_iff_getElem?.mp (List.mem_of_mem_drop hd)
        exact LFs_get lf' hq
    obtain ⟨x1, x2⟩ := ml_write s2 hk1 lft (((f4.take m).app (Reps.one q4)).app (f4.drop m))
    exact tS_step (P := P) ((e1.trans e2).trans x1) x2 kk⟩
/-- xs[i] = e -/
theorem xss_setI {m : Nat} (C : Ctx X sc N vs ls gs) (k : Nat) (hi : N[k]? = some nm) (hv : vs.contains k = true) (he : XE X CS e δ (.d x) δ1) (hk1 : δ1[k]? = some (some (.ml l ds))) (hx : XE X CS a δ1 (.d (.int j)) δ1) (hm : ixN ds.length j = some m) (f : LF x = true) (h2 : XSs X CS rest (δ1.set k (some (.ml l (ds.set m x)))) P)
    (ha : ∀ v, assign (.Subscript (.Name nm p2) a p3) X.env v = (do
      let ov ← holding [v] (eval (.Name nm p2) X.env)
      let iv ← holding [v, ov] (eval a X.env)
      standAt p3
      holding [v, ov, iv] (setItem ov iv v)
      release [v, ov, iv] []) := by intro _; rfl) (hs : swapsWithSole [.Subscript (.Name nm p2) a p3] e pos.line X.env = pure false := by rfl) (hw : swappedStores [.Subscript (.Name nm p2) a p3] e X.env = pure none := by rfl)
    (h1 : (assignEach [.Subscript (.Name nm p2) a p3] X.env).map (·.2) = [assign (.Subscript (.Name nm p2) a p3) X.env] := by rfl) : XSs X CS (.Assign [.Subscript (.Name nm p2) a p3] e pos :: rest) δ P :=
  pss_weak (pss_cons (ps_asg he (pg_sub (xe_m (CS := CS) C k hi hv hk1 rfl) hx set_list ha) hs hw h1) h2) fun D σ H ⟨A, B, s, kk⟩ => ⟨A, B, s, fun v H1 e1 s1 q1 => ⟨A, B, s1, fun o H2 e2 s2 q2 => ⟨A, B, s2, fun u H3 e3 s3 q3 => by
    have eo : o = .ref l := q2
    have eu : u = .int j := q3
    subst eo; subst eu
    obtain ⟨v', f1, f2, fA, lf', us', f3, f4⟩ := s3.sl k _ hk1
    refine ⟨l, us', j, m, rfl, rfl, f3, by rw [f4.len]; exact hm, ?_⟩
    have lft : LFs (ds.set m x) = true := LFs_all fun d hd => by
      rcases List.mem_or_eq_of_mem_set hd with z | z
      · obtain ⟨q, hq⟩ := List.mem_iff_getElem?.mp z
        exact LFs_get lf' hq
      · rw [z]
        exact f
    obtain ⟨x1, x2⟩ := ml_write s3 hk1 lft (Reps.set m f4 (e3.rep (e2.rep q1)))
    exact tS_step (P := P) (((e1.trans e2).trans e3).trans x1) x2 kk⟩⟩⟩
/-- xs.clear() -/
theorem xss_clear (C : Ctx X sc N vs ls gs) (k : Nat) (hi : N[k]? = some nm) (hv : vs.contains k = true) (hk : δ[k]? = some (some (.ml l ds))) (h2 : XSs X CS rest (δ.set k (some (.ml l []))) P) (hline : (ap.endLine == cp.line) = true := by rfl) : XSs X CS (.Expr (.Call (.Attribute (.Name nm p2) "clear" ap) [] [] cp) pos :: rest) δ P :=
  pss_weak (pss_cons (ps_expr (pe_bm0 PySem.F.plainAttrs_list PySem.F.slot_list_clear PySem.F.type_list_clear mt_clear (xe_m (CS := CS) C k hi hv hk rfl) rfl hline)) h2) fun D σ H ⟨A, B, s, kk⟩ => ⟨A, B, s, fun v H1 e1 s1 q1 => by
    have ev : v = .ref l := q1
    subst ev
    obtain ⟨v, g1, g2, gA, lf, us, g3, g4⟩ := s1.sl k _ hk
    refine ⟨.inl ⟨rfl, us, SqL.of g3⟩, l, us, rfl, rfl, g3, ?_⟩
    obtain ⟨x1, x2⟩ := ml_write (ds' := []) s1 hk rfl (us := []) rfl
    exact tS_step (P := P) (e1.trans x1) x2 kk⟩

/-! ### d[k] = e -/
variable {kvs : List (Int × D)}
theorem lookup_valV_none {H : Hp} {A : AP1} {kv : List (Key × V)} (h : ReKV CS H A kvs kv) (n : kvs.lookup i = none) : valV kv (Sum.inl i) = none := by
  rcases h.look i with ⟨_, n2⟩ | ⟨d, v, n1, _⟩
  · exact n2
  · rw [n] at n1
    cases n1
theorem xss_dput (hu : X.A.units + 1 < cLine) (C : Ctx X sc N vs ls gs) (k : Nat) (hi : N[k]? = some nm) (hv : vs.contains k = true) (he : XE X CS e δ (.d x) δ1) (hk1 : δ1[k]? = some (some (.md l kvs))) (hx : XE X CS a δ1 (.d (.int j)) δ1) (hn : kvs.lookup j = none) (f : LF x = true) (hz : kvs.length ≤ 1000) (h2 : XSs X CS rest (δ1.set k (some (.md l (kvs ++ [(j, x)])))) P)
    (hs : swapsWith e (some (.Subscript (.Name nm p2) a p3)) pos.line X.env = pure false := by rfl) : XSs X CS (.Assign [.Subscript (.Name nm p2) a p3] e pos :: rest) δ P :=
  pss_weak (pss_cons (ps_dput hu (xe_m (CS := CS) C k hi hv hk1 rfl) hx he hs) h2) fun D σ H ⟨A, B, s, kk⟩ => ⟨A, B, s, fun v H1 e1 s1 q1 => ⟨A, B, s1, fun o H2 e2 s2 q2 => ⟨A, B, s2, fun u H3 e3 s3 q3 => by
    have eo : o = .ref l := q2
    have eu : u = .int j := q3
    subst eo; subst eu
    obtain ⟨v', f1, f2, fA, lf', kv, f3, f4⟩ := s3.sl k _ hk1
    have hl : kv.length = kvs.length := by
      have := congrArg List.length f4.1
      simpa using this
    refine ⟨l, _, rfl, DPut.k (k := Sum.inl j) f3 (by rw [hl]; exact small1000 hz), ?_⟩
    rw [putK_new _ (lookup_valV_none f4 hn)]
    obtain ⟨x1, x2⟩ := md_write (kvs' := kvs ++ [(j, x)]) (kv := kv ++ [(Sum.inl j, v)]) s3 hk1 (by rw [List.map_append, LFs_app, lf']; simp [LFs, f]) ⟨by rw [List.map_append, List.map_append, f4.1]; rfl, by rw [List.map_append, List.map_append]; exact f4.2.app (Reps.one (e3.rep (e2.rep q1)))⟩
    exact tS_step (P := P) (((e1.trans e2).trans e3).trans x1) x2 kk⟩⟩⟩

/-! ### the hand -/
variable {p cc : Addr} {g : Hand}
def Hand.get (g : Hand) : Nat → Int
  | 1 => g.at_
  | 2 => g.cur
  | 3 => g.seed
  | _ => g.cnt
def Hand.put (g : Hand) (n : Int) : Nat → Hand
  | 1 => { g with at_ := n }
  | 2 => { g with cur := n }
  | 3 => { g with seed := n }
  | _ => { g with cnt := n }
theorem Hand.put_cells (g : Hand) (n : Int) (m : Nat) : (g.put n m).cells = g.cells := by
  unfold Hand.put
  split <;> rfl
/-- hand[m], m from 1 to 4 -/
theorem xe_hget {m : Nat} {q : Nat} (C : Ctx X sc N vs ls gs) (k : Nat) (hi : N[k]? = some nm) (hv : vs.contains k = true) (hk : δ[k]? = some (some (.hd p cc g))) (hm : 1 ≤ m ∧ m ≤ 4) : XE X CS (.Subscript (.Name nm p2) (.Constant (.int (m : Nat)) q p3) pos) δ (.d (.int (g.get m))) δ :=
  pe_weak (pe_ix ix_list (xe_m (CS := CS) C k hi hv hk rfl) pe_int (by intro _ _; rfl)) fun σ H Q ⟨A, B, s, kk⟩ => ⟨A, B, s, fun v H1 e1 s1 q1 => by
    have ev : v = .ref p := q1
    subst ev
    obtain ⟨v', f1, f2, fA, nc, f3, f4⟩ := s1.sl k _ hk
    refine ⟨p, g.vals cc, (m : Nat), .int (g.get m), rfl, rfl, SqL.of f3, ?_, kk _ H1 e1 s1 rfl⟩
    have : m = 1 ∨ m = 2 ∨ m = 3 ∨ m = 4 := by omega
    rcases this with z | z | z | z <;> subst z <;> rfl⟩
theorem xe_hcells {q : Nat} (C : Ctx X sc N vs ls gs) (k : Nat) (hi : N[k]? = some nm) (hv : vs.contains k = true) (hk : δ[k]? = some (some (.hd p cc g))) : XE X CS (.Subscript (.Name nm p2) (.Constant (.int 0) q p3) pos) δ (.d (.lst (g.cells.map D.int))) δ :=
  pe_weak (pe_ix ix_list (xe_m (CS := CS) C k hi hv hk rfl) pe_int (by intro _ _; rfl)) fun σ H Q ⟨A, B, s, kk⟩ => ⟨A, B, s, fun v H1 e1 s1 q1 => by
    have ev : v = .ref p := q1
    subst ev
    obtain ⟨v', f1, f2, fA, nc, f3, f4⟩ := s1.sl k _ hk
    exact ⟨p, g.vals cc, 0, .ref cc, rfl, rfl, SqL.of f3, rfl, kk _ H1 e1 s1 ⟨cc, _, rfl, nc, f4, Reps.of_ints _⟩⟩⟩
/-- hand[m] = e -/
theorem xss_hset {m : Nat} {q : Nat} (C : Ctx X sc N vs ls gs) (k : Nat) (hi : N[k]? = some nm) (hv : vs.contains k = true) (he : XE X CS e δ (.d (.int i)) δ1) (hk1 : δ1[k]? = some (some (.hd p cc g))) (hm : 1 ≤ m ∧ m ≤ 4) (h2 : XSs X CS rest (δ1.set k (some (.hd p cc (g.put i m)))) P)
    (hs : swapsWithSole [.Subscript (.Name nm p2) (.Constant (.int (m : Nat)) q p3) ap] e pos.line X.env = pure false := by rfl) (hw : swappedStores [.Subscript (.Name nm p2) (.Constant (.int (m : Nat)) q p3) ap] e X.env = pure none := by rfl) : XSs X CS (.Assign [.Subscript (.Name nm p2) (.Constant (.int (m : Nat)) q p3) ap] e pos :: rest) δ P :=
  pss_weak (pss_cons (ps_asg he (pg_sub (xe_m (CS := CS) C k hi hv hk1 rfl) (xe_int (CS := CS) (δ := δ1)) set_list (by intro _; rfl)) hs hw rfl) h2) fun D σ H ⟨A, B, s, kk⟩ => ⟨A, B, s, fun v H1 e1 s1 q1 => ⟨A, B, s1, fun o H2 e2 s2 q2 => ⟨A, B, s2, fun u H3 e3 s3 q3 => by
    have ev : v = .int i := q1
    have eo : o = .ref p := q2
    have eu : u = .int (m : Nat) := q3
    subst eo; subst eu; subst ev
    obtain ⟨v', f1, f2, fA, nc, f3, f4⟩ := s3.sl k _ hk1
    have e0 : ixN (g.vals cc).length (m : Nat) = some m ∧ (g.vals cc).set m (.int i) = (g.put i m).vals cc := by
      have : m = 1 ∨ m = 2 ∨ m = 3 ∨ m = 4 := by omega
      rcases this with z | z | z | z <;> subst z <;> exact ⟨rfl, rfl⟩
    refine ⟨p, g.vals cc, (m : Nat), m, rfl, rfl, f3, e0.1, ?_⟩
    rw [e0.2]
    obtain ⟨x1, x2⟩ := hd_write s3 hk1 (Hand.put_cells g i m)
    exact tS_step (P := P) (((e1.trans e2).trans e3).trans x1) x2 kk⟩⟩⟩
end
end K06
/-! K5: what is walked, loops, comprehensions. -/
namespace K06
open PySem PySem.Spec L2
variable {X : Cx} {CS : Addr} {sc : Scope} {N : List Str} {vs ls : List Nat} {gs : List Str}

/-- a walk that gives the data ds, from H' on, whatever is done to one's own things -/
structure WalkD (CS : Addr) (A : AP1) (B : Bo) (J : It) (ds : List D) (H' : Hp) : Prop where
  goes : ∀ (i : Nat) (A1 : AP1) (H1 : Hp), i < ds.length → Ext A B H' A1 H1 → J.go i H1
  stops : ∀ (A1 : AP1) (H1 : Hp), Ext A B H' A1 H1 → J.stop ds.length H1
  yields : ∀ (i : Nat) (A1 : AP1) (H1 : Hp) (x : V) (H2 : Hp), i < ds.length → Ext A B H' A1 H1 → J.yld i H1 x H2 → Same H1 H2 ∧ ∃ d, ds[i]? = some d ∧ Rep CS H2 (Un2 A1 B) d x
def iX (CS : Addr) (δ : Sto) (ds : List D) (δ' : Sto) : TI := fun σ H R => ∃ A B, SR CS A B σ H δ ∧ ∀ J H', Ext A B H A H' → SR CS A B σ H' δ' → WalkD CS A B J ds H' → R J H'
abbrev XI (X : Cx) (CS : Addr) (tg iter : Expr) (δ : Sto) (ds : List D) (δ' : Sto) : Prop := PI X tg iter (iX CS δ ds δ')
theorem pi_weak {tg iter : Expr} {t t' : TI} (h : PI X tg iter t) (w : ∀ σ H R, t' σ H R → t σ H R) : PI X tg iter t' := ⟨fun pins s σ H R I q => h.run pins s σ H R I (w σ H R q)⟩

section
variable {a b c e tg iter elt : Expr} {es ifs : List Expr} {pos p2 p3 : Pos} {δ δ0 δ1 δ2 δ3 : Sto} {x y z : D} {r : Res} {ds : List D} {i j : Int} {rest body : List Stmt} {P : Post} {Q : Sto → Prop}

/-! ### lists, tuples, ranges, enumerate(list) -/
/-- data that isn't one's own list -/
def LstF : Res → List D → Prop
  | .d (.lst ds'), ds => ds' = ds
  | .n (.lst ds'), ds => ds' = ds
  | _, _ => False
theorem LstF.at {A : AP1} {B : Bo} {H H1 : Hp} {σ : L2.St} {v : V} (c : LstF r ds) (s : SR CS A B σ H δ) (h : RR CS A B H H1 r v) : ∃ a us, v = .ref a ∧ ¬ Un2 A B a ∧ H1 a = some (.lst us) ∧ Reps CS H1 (Un2 A B) ds us := by
  cases r with
  | d x =>
    cases x with
    | lst ds' =>
      have e : ds' = ds := by simpa [LstF] using c
      subst e
      exact h
    | _ => exact (by simpa [LstF] using c : False).elim
  | n x =>
    cases x with
    | lst ds' =>
      have e : ds' = ds := by simpa [LstF] using c
      subst e
      exact RR.toD s h
    | _ => exact (by simpa [LstF] using c : False).elim
  | m l => exact (by simpa [LstF] using c : False).elim
theorem walkD_list {K : PySem.W.Frag} {A : AP1} {B : Bo} {H1 : Hp} {p : Addr} {us : List V} (n : ¬ Un2 A B p) (h1 : H1 p = some (.lst us)) (h2 : Reps CS H1 (Un2 A B) ds us) : WalkD CS A B (Itl K p) ds H1 where
  goes := fun i A1 H2 hi ex => ⟨us, us[i]'(by rw [h2.len]; exact hi), SqL.of (ex.out p _ (fun z => n (.inl z)) h1), by simp [show i < us.length by rw [h2.len]; exact hi]⟩
  stops := fun A1 H2 ex => ⟨us, SqL.of (ex.out p _ (fun z => n (.inl z)) h1), by rw [h2.len]; exact Nat.le_refl _⟩
  yields := fun i A1 H2 x H3 hi ex y => by
    obtain ⟨rfl, y2⟩ := y
    obtain ⟨v, g1, g2⟩ := h2.get (i := i) (d := ds[i]) (by simp [hi])
    have e1 := y2 us (SqL.of (ex.out p _ (fun z => n (.inl z)) h1))
    rw [g1] at e1
    cases e1
    exact ⟨Same.refl _, ds[i], by simp [hi], Rep.ext ex _ _ g2⟩
theorem walkD_tup {K : PySem.W.Frag} {A : AP1} {B : Bo} {H1 : Hp} {p : Addr} {us : List V} (h1 : H1 p = some (.tup us)) (h2 : Reps CS H1 (Un2 A B) ds us) : WalkD CS A B (Itt K p) ds H1 where
  goes := fun i A1 H2 hi ex => ⟨us, us[i]'(by rw [h2.len]; exact hi), SqT.of (ex.tup p _ h1), by simp [show i < us.length by rw [h2.len]; exact hi]⟩
  stops := fun A1 H2 ex => ⟨us, SqT.of (ex.tup p _ h1), by rw [h2.len]; exact Nat.le_refl _⟩
  yields := fun i A1 H2 x H3 hi ex y => by
    obtain ⟨rfl, y2⟩ := y
    obtain ⟨v, g1, g2⟩ := h2.get (i := i) (d := ds[i]) (by simp [hi])
    have e1 := y2 us (SqT.of (ex.tup p _ h1))
    rw [g1] at e1
    cases e1
    exact ⟨Same.refl _, ds[i], by simp [hi], Rep.ext ex _ _ g2⟩
theorem xi_l (ha : XE X CS e δ r δ1) (hc : LstF r ds) : XI X CS tg e δ ds δ1 :=
  pi_weak (pi_list ha) fun σ H R ⟨A, B, s, k⟩ => ⟨A, B, s, fun v H1 e1 s1 q1 => by
    obtain ⟨p, us, ev, n, h1, h2⟩ := hc.at s q1
    exact ⟨p, ev, ⟨us, SqL.of h1⟩, k _ H1 e1 s1 (walkD_list n h1 h2)⟩⟩
theorem xi_t (ha : XE X CS e δ r δ1) (hc : TupC r ds) : XI X CS tg e δ ds δ1 :=
  pi_weak (pi_tup ha) fun σ H R ⟨A, B, s, k⟩ => ⟨A, B, s, fun v H1 e1 s1 q1 => by
    obtain ⟨p, us, ev, h1, h2⟩ := hc.at' (fun a z => s.tracked z) q1
    exact ⟨p, ev, ⟨us, SqT.of h1⟩, k _ H1 e1 s1 (walkD_tup h1 h2)⟩⟩
/-- range(n) -/
theorem xi_r {n : Nat} (C : Ctx X sc N vs ls gs) (k : Nat) (hk : gs[k]? = some "range") (ha : XE X CS a δ (.d (.int (n : Nat))) δ1) (hn : n ≤ 100000) (hs : starEach [a] X.env = [(false, eval a X.env)] := by rfl) (hs2 : starEach [a] X.env = (false, eval a X.env) :: starEach [] X.env := by rfl) : XI X CS tg (.Call (.Name "range" p2) [a] [] pos) δ (natsD (List.range n)) δ1 :=
  pi_weak (pi_range1 (C.gl k _ hk).1 C.glb.range (xa_cons ha xa_nil hs2) hs) fun σ H R ⟨A, B, s, kk⟩ => ⟨A, B, s, fun ws H1 e1 s1 q1 => by
    obtain ⟨v, ew, q2⟩ := RRs.one q1
    have ev : v = .int (n : Nat) := q2
    have hlen : (natsD (List.range n)).length = n := by simp [natsD]
    refine ⟨(n : Nat), by rw [ew, ev], by omega, by omega, ?_⟩
    rw [Int.toNat_natCast]
    refine kk _ H1 e1 s1 ⟨fun i A1 H2 hi ex => by rw [hlen] at hi; exact hi, fun A1 H2 ex => by rw [hlen]; exact Nat.le_refl n, fun i A1 H2 x H3 hi ex y => ?_⟩
    obtain ⟨y1, y2⟩ := y
    subst y1; subst y2
    rw [hlen] at hi
    refine ⟨Same.refl _, .int (i : Nat), by simp [natsD, hi], ?_⟩
    show V.int (0 + (i : Int)) = V.int (i : Int)
    rw [Int.zero_add]⟩
/-- the items with their numbers -/
def enumD (ds : List D) : List D := (List.range ds.length).map fun i => .tup [.int (i : Nat), ds.getD i .non]
theorem enumD_len : (enumD ds).length = ds.length := by simp [enumD]
theorem enumD_get {i : Nat} {d : D} (h : ds[i]? = some d) : (enumD ds)[i]? = some (.tup [.int (i : Nat), d]) := by
  have hi : i < ds.length := (List.getElem?_eq_some_iff.mp h).1
  have e : ds[i] = d := Option.some.inj (by rw [← h]; simp [hi])
  simp [enumD, hi, e]
theorem enumD_of {i : Nat} {d : D} (h : (enumD ds)[i]? = some d) : ∃ d', ds[i]? = some d' ∧ d = .tup [.int (i : Nat), d'] := by
  have hi : i < ds.length := by
    have := (List.getElem?_eq_some_iff.mp h).1
    rw [enumD_len] at this
    exact this
  have h2 := enumD_get (ds := ds) (i := i) (d := ds[i]) (by simp [hi])
  rw [h] at h2
  exact ⟨ds[i], by simp [hi], Option.some.inj h2⟩
/-- a new pair of a number and an item -/
theorem pair_new {A1 : AP1} {B : Bo} {H1 : Hp} {T : Addr} {n : Int} {w : V} {d : D} (hT : H1 T = none) (hd : Rep CS H1 (Un2 A1 B) d w) : Same H1 (upd H1 T (.tup [.int n, w])) ∧ Rep CS (upd H1 T (.tup [.int n, w])) (Un2 A1 B) (.tup [.int n, d]) (.ref T) :=
  ⟨same_new hT, rep_newT hT ⟨.int n, [w], rfl, rfl, w, [], rfl, hd, rfl⟩⟩
theorem walkD_enumL {K : PySem.W.Frag} {A : AP1} {B : Bo} {H1 : Hp} {p : Addr} {us : List V} (n : ¬ Un2 A B p) (h1 : H1 p = some (.lst us)) (h2 : Reps CS H1 (Un2 A B) ds us) : WalkD CS A B (Ite K p) (enumD ds) H1 where
  goes := fun i A1 H2 hi ex => by
    rw [enumD_len] at hi
    exact ⟨us, us[i]'(by rw [h2.len]; exact hi), SqL.of (ex.out p _ (fun z => n (.inl z)) h1), by simp [show i < us.length by rw [h2.len]; exact hi]⟩
  stops := fun A1 H2 ex => ⟨us, SqL.of (ex.out p _ (fun z => n (.inl z)) h1), by rw [h2.len, enumD_len]; exact Nat.le_refl _⟩
  yields := fun i A1 H2 x H3 hi ex y => by
    rw [enumD_len] at hi
    obtain ⟨T, w, rfl, hT, rfl, y2⟩ := y
    obtain ⟨v, g1, g2⟩ := h2.get (i := i) (d := ds[i]) (by simp [hi])
    have e1 := y2 us (SqL.of (ex.out p _ (fun z => n (.inl z)) h1))
    rw [g1] at e1
    cases e1
    obtain ⟨sm, rp⟩ := pair_new (n := (i : Nat)) hT (Rep.ext ex _ _ g2)
    exact ⟨sm, _, enumD_get (by simp [hi]), rp⟩
theorem xi_el {elts : List Expr} {kk : Nat} (C : Ctx X sc N vs ls gs) (k : Nat) (hk : gs[k]? = some "enumerate") (ha : XE X CS a δ r δ1) (hc : LstF r ds) (hs : starEach [a] X.env = [(false, eval a X.env)] := by rfl) (hs2 : starEach [a] X.env = (false, eval a X.env) :: starEach [] X.env := by rfl) :
    XI X CS (.Tuple elts kk p3) (.Call (.Name "enumerate" p2) [a] [] pos) δ (enumD ds) δ1 :=
  pi_weak (pi_enum (C.gl k _ hk).1 C.glb.enumerate (xa_cons ha xa_nil hs2) hs) fun σ H R ⟨A, B, s, kk⟩ => ⟨A, B, s, fun ws H1 e1 s1 q1 => by
    obtain ⟨v, ew, q2⟩ := RRs.one q1
    obtain ⟨p, us, ev, n, h1, h2⟩ := hc.at s q2
    exact ⟨p, us, by rw [ew, ev], SqL.of h1, kk _ H1 e1 s1 (walkD_enumL n h1 h2)⟩⟩

/-! ### for -/
theorem xss_for (C : Ctx X sc N vs ls gs) (hi : XI X CS tg iter δ ds δ1) (I : Nat → Sto → Prop) (Qx : Sto → Prop) (h0 : I 0 δ1)
    (hs : ∀ (i : Nat) (d : D) (δ : Sto), ds[i]? = some d → I i δ → ∃ ws δ2, XG X CS tg ws d δ δ2 ∧ XSs X CS body δ2 { nx := I (i + 1), ct := I (i + 1), bk := Qx, rt := P.rt })
    (hd : ∀ δ, I ds.length δ → Qx δ) (h2 : ∀ δ, Qx δ → XSs X CS rest δ P) (hf : ∀ x, foldedSetIterable iter X.env x = pure x := by intro _; rfl) : XSs X CS (.For tg iter body [] pos :: rest) δ P := by
  refine pss_weak (pss_cons (ps_for (g := fun v σ H Q => ∃ q : List Nat × Nat × D × Sto × Sto, (XG X CS tg q.1 q.2.2.1 q.2.2.2.1 q.2.2.2.2 ∧ XSs X CS body q.2.2.2.2 { nx := I (q.2.1 + 1), ct := I (q.2.1 + 1), bk := Qx, rt := P.rt }) ∧ gX CS q.1 q.2.2.1 q.2.2.2.1 q.2.2.2.2 v σ H Q)
    (tb := fun D σ H => ∃ q : Nat × Sto, XSs X CS body q.2 { nx := I (q.1 + 1), ct := I (q.1 + 1), bk := Qx, rt := P.rt } ∧ tS CS q.2 { nx := I (q.1 + 1), ct := I (q.1 + 1), bk := Qx, rt := P.rt } D σ H) C.po C.calm hi ⟨fun pins s σ H v u Q I r ⟨q, ⟨h1, _⟩, h2⟩ => h1.run pins s σ H v u Q I r h2⟩ (pss_ex fun q h => h) hf) (pss_ex (p := Qx) h2)) ?_
  rintro D σ H ⟨A, B, s, k⟩
  refine ⟨A, B, s, fun J H1 e1 s1 wk => ?_⟩
  refine ⟨fun i m σ' H' => m = ds.length - i ∧ i ≤ ds.length ∧ ∃ A1 δ', Ext A B H1 A1 H' ∧ SR CS A1 B σ' H' δ' ∧ I i δ', ⟨ds.length, by simp, Nat.zero_le _, A, δ1, Ext.refl, s1, h0⟩, ?_⟩
  rintro i m σ' H' ⟨rfl, hi', A1, δ', e2, s2, hI⟩
  by_cases hlt : i < ds.length
  · refine .inr ⟨wk.goes i A1 H' hlt e2, fun σ3 H3 => i + 1 ≤ ds.length ∧ ∃ A3 δ3, Ext A B H1 A3 H3 ∧ SR CS A3 B σ3 H3 δ3 ∧ I (i + 1) δ3, fun σ3 H3 h3 => ⟨ds.length - (i + 1), by omega, rfl, h3.1, h3.2⟩, fun x H2 hy => ?_⟩
    obtain ⟨sm, d, hd', rp⟩ := wk.yields i A1 H' x H2 hlt e2 hy
    obtain ⟨ws, δ2, g1, g2⟩ := hs i d δ' hd' hI
    refine ⟨(ws, i, d, δ', δ2), ⟨g1, g2⟩, A1, B, s2.same sm, rp, fun σ4 _ _ s4 => ⟨(i, δ2), g2, A1, B, s4, ?_, ?_, ?_, ?_⟩⟩
    · exact fun σ5 H5 A5 δ5 p5 e5 s5 => ⟨hlt, A5, δ5, (e2.trans (Same.ext sm)).trans e5, s5, p5⟩
    · exact fun σ5 H5 A5 δ5 d5 v5 p5 e5 s5 q5 => k.2.1 σ5 H5 A5 δ5 d5 v5 p5 (((e1.trans e2).trans (Same.ext sm)).trans e5) s5 (Rep.anti (Av.back ((e1.trans e2).trans (Same.ext sm))) d5 v5 q5)
    · exact fun σ5 H5 A5 δ5 p5 e5 s5 => ⟨δ5, p5, tS_step (((e1.trans e2).trans (Same.ext sm)).trans e5) s5 k⟩
    · exact fun σ5 H5 A5 δ5 p5 e5 s5 => ⟨hlt, A5, δ5, (e2.trans (Same.ext sm)).trans e5, s5, p5⟩
  · have e : i = ds.length := by omega
    subst e
    exact .inl ⟨wk.stops A1 H' e2, δ', hd δ' hI, tS_step (e1.trans e2) s2 k⟩
/-! ### while -/
theorem xss_while (C : Ctx X sc N vs ls gs) (I : Nat → Sto → Prop) (Qx : Sto → Prop) (m0 : Nat) (h0 : I m0 δ)
    (hs : ∀ (m : Nat) (δ : Sto), I m δ → ∃ b δ1, XT X CS c δ b δ1 ∧ (b = true → XSs X CS body δ1 { nx := fun δ' => ∃ m', m' < m ∧ I m' δ', ct := fun δ' => ∃ m', m' < m ∧ I m' δ', bk := Qx, rt := P.rt }) ∧ (b = false → Qx δ1))
    (h2 : ∀ δ, Qx δ → XSs X CS rest δ P) : XSs X CS (.While c body [] pos :: rest) δ P := by
  refine pss_weak (pss_cons (ps_while (tc := fun σ H Q => ∃ q : Sto × Bool × Sto, XT X CS c q.1 q.2.1 q.2.2 ∧ tT CS q.1 q.2.1 q.2.2 σ H Q)
    (tb := fun D σ H => ∃ q : Nat × Sto, XSs X CS body q.2 { nx := fun δ' => ∃ m', m' < q.1 ∧ I m' δ', ct := fun δ' => ∃ m', m' < q.1 ∧ I m' δ', bk := Qx, rt := P.rt } ∧ tS CS q.2 { nx := fun δ' => ∃ m', m' < q.1 ∧ I m' δ', ct := fun δ' => ∃ m', m' < q.1 ∧ I m' δ', bk := Qx, rt := P.rt } D σ H)
    C.po ⟨fun pins s σ H Q I ⟨q, h1, h2⟩ => h1.run pins s σ H Q I h2⟩ (pss_ex fun q h => h)) (pss_ex (p := Qx) h2)) ?_
  rintro D σ H ⟨A, B, s, k⟩
  refine ⟨fun m σ' H' => ∃ A1 δ', Ext A B H A1 H' ∧ SR CS A1 B σ' H' δ' ∧ I m δ', ⟨m0, A, δ, Ext.refl, s, h0⟩, ?_⟩
  rintro m σ' H' ⟨A1, δ', e2, s2, hI⟩
  obtain ⟨b, δ1, t1, t2, t3⟩ := hs m δ' hI
  refine ⟨(δ', b, δ1), t1, A1, B, s2, fun H3 e3 s3 => ?_⟩
  cases b with
  | true =>
    refine iteT ⟨fun σ5 H5 => ∃ m', m' < m ∧ ∃ A5 δ5, Ext A B H A5 H5 ∧ SR CS A5 B σ5 H5 δ5 ∧ I m' δ5, fun σ5 H5 ⟨m', hm, h⟩ => ⟨m', hm, h⟩, (m, δ1), t2 rfl, A1, B, s3, ?_, ?_, ?_, ?_⟩
    · exact fun σ5 H5 A5 δ5 ⟨m', hm, p5⟩ e5 s5 => ⟨m', hm, A5, δ5, (e2.trans e3).trans e5, s5, p5⟩
    · exact fun σ5 H5 A5 δ5 d5 v5 p5 e5 s5 q5 => k.2.1 σ5 H5 A5 δ5 d5 v5 p5 ((e2.trans e3).trans e5) s5 (Rep.anti (Av.back (e2.trans e3)) d5 v5 q5)
    · exact fun σ5 H5 A5 δ5 p5 e5 s5 => ⟨δ5, p5, tS_step ((e2.trans e3).trans e5) s5 k⟩
    · exact fun σ5 H5 A5 δ5 ⟨m', hm, p5⟩ e5 s5 => ⟨m', hm, A5, δ5, (e2.trans e3).trans e5, s5, p5⟩
  | false =>
    exact iteF ⟨δ1, t3 rfl, tS_step (e2.trans e3) s3 k⟩
end
end K06
/-! K6: contexts of bodies and blocks, comprehensions. -/
namespace K06
open PySem PySem.Spec L2
variable {X Y : Cx} {CS : Addr} {sc : Scope} {N : List Str} {vs ls : List Nat} {gs : List Str}

/-! ### looks at a scope -/
def visB (sc : Scope) (x : Str) : Bool := (match sc.names.lookup x with
  | some .local => true
  | some .cell => true
  | some .free => true
  | _ => false) && !(x == ("__debug__" : Str)) && !(x == ("__classdict__" : Str))
def locB (sc : Scope) (x : Str) : Bool := match sc.names.lookup x with
  | some .local => true
  | _ => false
def locB2 (sc : Scope) (x : Str) : Bool := match sc.names.lookup x with
  | some .local => true
  | some .cell => true
  | _ => false
def glB (sc : Scope) (x : Str) : Bool := (match sc.names.lookup x with
  | some .globalImplicit => true
  | _ => false) && !(x == ("__debug__" : Str))
def okAt (N : List Str) (f : Str → Bool) (is : List Nat) : Bool := is.all fun i => match N[i]? with
  | some x => f x
  | none => true
/-- a def's names -/
def scOk (N : List Str) (vs ls : List Nat) (gs : List Str) (sc : Scope) : Bool := okAt N (visB sc) vs && okAt N (locB2 sc) ls && gs.all (glB sc)
/-- a block's names -/
def bkOk (N : List Str) (vs ls : List Nat) (gs : List Str) (sc : Scope) : Bool := okAt N (visB sc) vs && okAt N (locB sc) ls && gs.all (glB sc)
theorem okAt_get {f : Str → Bool} {is : List Nat} (h : okAt N f is = true) {i : Nat} {x : Str} (hi : is.contains i = true) (hx : N[i]? = some x) : f x = true := by
  have h2 := List.all_eq_true.mp h i (List.contains_iff_mem.mp hi)
  rw [hx] at h2
  exact h2
theorem visB_vis {x : Str} (h : visB sc x = true) : Vis sc x ∧ (x == ("__debug__" : Str)) = false ∧ (x == ("__classdict__" : Str)) = false := by
  unfold visB at h
  simp only [Bool.and_eq_true, Bool.not_eq_true'] at h
  refine ⟨?_, h.1.2, h.2⟩
  unfold Vis
  cases q : sc.names.lookup x with
  | none => rw [q] at h; simp at h
  | some k => rw [q] at h; cases k <;> simp_all
theorem glB_gl {x : Str} (h : glB sc x = true) : sc.names.lookup x = some .globalImplicit ∧ (x == ("__debug__" : Str)) = false := by
  unfold glB at h
  simp only [Bool.and_eq_true, Bool.not_eq_true'] at h
  refine ⟨?_, h.2⟩
  cases q : sc.names.lookup x with
  | none => rw [q] at h; simp at h
  | some k => rw [q] at h; cases k <;> simp_all
/-- the context of a def's body -/
theorem Ctx.body {P : Program} {w : World} {K : PySem.W.Frag} {mg : Str → Option Value} {base : Heap} {qual : Str} {f : Addr} {cd : Value} {A : Around} {outer : List Env} {s : Shared} {H : Hp} {E : XK} (h : scOk N vs ls gs sc = true) (nd : N.Nodup) (hg : Glb mg) :
    Ctx (cxOf CX0 P w K mg base N qual sc f cd A outer s H E).nox sc N vs ls gs := by
  unfold scOk at h
  simp only [Bool.and_eq_true] at h
  refine ⟨rfl, rfl, nd, fun i x hi hx => visB_vis (okAt_get h.1.1 hi hx), fun i x hi hx => ⟨?_, .inl rfl⟩, fun j x hj => glB_gl (List.all_eq_true.mp h.2 x (List.mem_of_getElem? hj)), rfl, hg, PassesOwn.never⟩
  have h2 := okAt_get h.1.2 hi hx
  unfold locB2 at h2
  show L2.Loc sc x
  unfold L2.Loc
  cases q : sc.names.lookup x with
  | none => rw [q] at h2; simp at h2
  | some k => rw [q] at h2; cases k <;> simp_all

/-! ### a block within -/
structure Blk (X : Cx) (scope : Scope) (Y : Cx) : Prop where
  ex : ∃ (s : Shared) (H : Hp) (C : Addr) (cl : List (Str × Addr)) (fp : List Addr), Y = X.blk s H scope (compEnvC scope cl C X.env) fp
theorem lookup_relab {f : Str → NameKind → Bool} {x : Str} : ∀ (names : List (Str × NameKind)), (names.map fun p => if f p.1 p.2 = true then (p.1, NameKind.cell) else (p.1, p.2)).lookup x = (names.lookup x).map fun k => if f x k = true then NameKind.cell else k
  | [] => rfl
  | (n, k) :: r => by
    have ih := lookup_relab (f := f) (x := x) r
    rw [List.map_cons]
    by_cases e : x = n
    · subst e
      by_cases h : f x k = true
      · simp [h, List.lookup]
      · simp [h, List.lookup]
    · have e' : (x == n) = false := by simpa using e
      have e2 : ∀ k' : NameKind, ((n, k') :: (r.map fun p => if f p.1 p.2 = true then (p.1, NameKind.cell) else (p.1, p.2))).lookup x = (r.map fun p => if f p.1 p.2 = true then (p.1, NameKind.cell) else (p.1, p.2)).lookup x := fun k' => by
        rw [List.lookup_cons, e']
      have e3 : ((n, k) :: r).lookup x = r.lookup x := by
        rw [List.lookup_cons, e']
      rw [e3]
      by_cases h : f n k = true
      · rw [if_pos h, e2]
        exact ih
      · rw [if_neg h, e2]
        exact ih
theorem relab_look {scope : Scope} {env : Env} (x : Str) : (relabel scope env).names.lookup x = (scope.names.lookup x).map fun k => if (k == .free && env.scope.kind == .function && env.kindOf x == some .cell) = true then NameKind.cell else k :=
  lookup_relab (f := fun n k => (k == .free && env.scope.kind == .function && env.kindOf n == some .cell)) scope.names
theorem Ctx.blk {scope : Scope} {vs' ls' : List Nat} {gs' : List Str} (C : Ctx X sc N vs ls gs) (hB : Blk X scope Y) (h : bkOk N vs' ls' gs' scope = true) : Ctx Y Y.env.scope N vs' ls' gs' := by
  obtain ⟨s, H, Ca, cl, fp, rfl⟩ := hB.ex
  unfold bkOk at h
  simp only [Bool.and_eq_true] at h
  refine ⟨C.hN, rfl, C.nd, fun i x hi hx => ?_, fun i x hi hx => ?_, fun j x hj => ?_, C.calm, C.glb, PassesOwn.never⟩
  · obtain ⟨h1, h2⟩ := visB_vis (okAt_get h.1.1 hi hx)
    refine ⟨?_, h2⟩
    show Vis (relabel scope X.env) x
    unfold Vis at h1 ⊢
    rw [relab_look]
    rcases h1 with e | e | e
    · rw [e]; exact .inl rfl
    · rw [e]; exact .inr (.inl rfl)
    · rw [e]
      by_cases q : (NameKind.free == .free && X.env.scope.kind == .function && X.env.kindOf x == some .cell) = true
      · refine .inr (.inl ?_)
        rw [Option.map_some, if_pos q]
      · refine .inr (.inr ?_)
        rw [Option.map_some, if_neg q]
  · have h2 := okAt_get h.1.2 hi hx
    unfold locB at h2
    have e : scope.names.lookup x = some .local := by
      cases q : scope.names.lookup x with
      | none => rw [q] at h2; simp at h2
      | some k => rw [q] at h2; cases k <;> simp_all
    have e2 : (relabel scope X.env).names.lookup x = some .local := by rw [relab_look, e]; rfl
    exact ⟨.inl e2, .inr e2⟩
  · obtain ⟨e, e3⟩ := glB_gl (List.all_eq_true.mp h.2 x (List.mem_of_getElem? hj))
    refine ⟨?_, e3⟩
    show (relabel scope X.env).names.lookup x = some .globalImplicit
    rw [relab_look, e]
    rfl

/-! ### comprehensions -/
def forget : List Nat → Sto → Sto
  | [], δ => δ
  | v :: vs, δ => (forget vs δ).set v none
theorem forget_len (δ : Sto) : ∀ ws : List Nat, (forget ws δ).length = δ.length
  | [] => rfl
  | v :: ws => by
    show ((forget ws δ).set v none).length = _
    rw [List.length_set, forget_len δ ws]
theorem forget_some {δ : Sto} {i : Nat} {s : Slot} : ∀ {ws : List Nat}, (forget ws δ)[i]? = some (some s) → δ[i]? = some (some s) ∧ i ∉ ws
  | [], h => ⟨h, by simp⟩
  | v :: ws, h => by
    have h' : ((forget ws δ).set v none)[i]? = some (some s) := h
    by_cases e : i = v
    · subst e
      by_cases hl : i < (forget ws δ).length
      · rw [List.getElem?_set_self hl] at h'; cases h'
      · rw [List.getElem?_eq_none (by simp; omega)] at h'; cases h'
    · rw [List.getElem?_set_ne (Ne.symm e)] at h'
      obtain ⟨g1, g2⟩ := forget_some h'
      exact ⟨g1, fun z => (List.mem_cons.mp z).elim e g2⟩
theorem wipe_same {σ σ' : L2.St} (hl : σ'.length = σ.length) : ∀ {ws vs : List Nat}, (∀ i ∈ ws, i ∈ vs) → (∀ i, i ∉ ws → σ'[i]? = σ[i]?) → wipe σ' vs = wipe σ vs := fun {ws vs} hs h => by
  apply List.ext_getElem?
  intro i
  by_cases hi : i ∈ vs
  · have key : ∀ (τ : L2.St) (us : List Nat), i ∈ us → (wipe τ us)[i]? = if i < τ.length then some none else none := fun τ us => by
      induction us with
      | nil => intro z; cases z
      | cons u us ih =>
        intro z
        show ((wipe τ us).set u none)[i]? = _
        by_cases e : i = u
        · subst e
          by_cases hl : i < τ.length
          · rw [List.getElem?_set_self (by rw [wipe_length]; exact hl), if_pos hl]
          · rw [List.getElem?_eq_none (by rw [List.length_set, wipe_length]; omega), if_neg hl]
        · rw [List.getElem?_set_ne (Ne.symm e)]
          exact ih ((List.mem_cons.mp z).resolve_left e)
    rw [key σ' vs hi, key σ vs hi, hl]
  · rw [wipe_out hi, wipe_out hi]
    exact h i fun z => hi (hs i z)

section
variable {A : AP1} {B : Bo} {H H1 H2 : Hp} {σ : L2.St} {δ : Sto} {Dl : Addr} {o : HO}
abbrev Bo.with (B : Bo) (Dl : Addr) : Bo := ⟨B.b, fun a => B.z a ∨ a = Dl, B.t⟩
mutual
theorem Rep.guard (hD : H Dl = none) (hn : ∀ b u, H b = some u → H2 b = some u) : ∀ (d : D) (v : V), Rep CS H (Un2 A B) d v → Rep CS H2 (Un2 A (B.with Dl)) d v
  | .non, v, h => h
  | .bl _, v, h => h
  | .int _, v, h => h
  | .str _, v, h => h
  | .tup ds, v, h => by
    obtain ⟨a, vs, e1, h1, h2⟩ := h
    exact ⟨a, vs, e1, hn a _ h1, Reps.guard hD hn ds vs h2⟩
  | .lst ds, v, h => by
    obtain ⟨a, vs, e1, n, h1, h2⟩ := h
    exact ⟨a, vs, e1, Rep.guardA hD (by rw [h1]; simp) n, hn a _ h1, Reps.guard hD hn ds vs h2⟩
  | .std c hh ds, v, h => by
    obtain ⟨a, dx, t, vs, e1, n, h1, h2, h3⟩ := h
    exact ⟨a, dx, t, vs, e1, Rep.guardA hD (by rw [h1]; simp) n, hn a _ h1, hn t _ h2, Reps.guard hD hn ds vs h3⟩
  | .adr _, v, h => h
  | .ty _, v, h => h
  | .obj f c oc, v, h => by
    obtain ⟨e1, n, t, h2⟩ := h
    exact ⟨e1, Rep.guardA hD (by rw [h2]; simp) n, t, hn c _ h2⟩
theorem Reps.guard (hD : H Dl = none) (hn : ∀ b u, H b = some u → H2 b = some u) : ∀ (ds : List D) (vs : List V), Reps CS H (Un2 A B) ds vs → Reps CS H2 (Un2 A (B.with Dl)) ds vs
  | [], vs, h => h
  | d :: ds, vs, h => by
    obtain ⟨v, r, e1, h1, h2⟩ := h
    exact ⟨v, r, e1, Rep.guard hD hn d v h1, Reps.guard hD hn ds r h2⟩
theorem Rep.guardA (hD : H Dl = none) {a : Addr} (ha : H a ≠ none) (n : ¬ Un2 A B a) : ¬ Un2 A (B.with Dl) a := fun z => by
  rcases z with (z | z) | z | z
  · exact n (.inl (.inl z))
  · exact n (.inl (.inr z))
  · exact n (.inr z)
  · rw [z] at ha
    exact ha hD
end
/-- a new list comes up; it is kept from the data -/
theorem SR.guard (s : SR CS A B σ H δ) (hD : H Dl = none) (hm : Mut (some o)) (hn : NC o := by intro _ _ z; unfold LamX.CodeO at z; cases z) : SR CS A (B.with Dl) σ (upd H Dl o) δ := by
  have sm : Same H (upd H Dl o) := same_new hD
  refine ⟨s.len, fun a z => ?_, fun i t e => ?_, s.sep, ⟨fun p hp => tabs_upd (s.tabs.tb p hp) (fun z => ?_) fun c q hc z => (by rw [z, hD] at hc; cases hc), fun hB c q hc => ?_⟩⟩
  rotate_left 2
  · obtain ⟨ps, h1, _⟩ := s.tabs.tb p hp
    rw [z, hD] at h1
    cases h1
  · by_cases e : c = Dl
    · rw [e, upd_same] at hc
      exact absurd (Option.some.inj hc) (hn _ _)
    · rw [upd_ne e] at hc
      intro z
      rcases z with (z | z) | z | z
      · exact s.tabs.nc hB c q hc (.inl (.inl z))
      · exact s.tabs.nc hB c q hc (.inl (.inr z))
      · exact s.tabs.nc hB c q hc (.inr z)
      · exact e z
  · by_cases q : a = Dl
    · rw [q, upd_same]
      exact hm
    · rw [upd_ne q]
      refine s.muts a ?_
      rcases z with (z | z) | z | z
      · exact .inl (.inl z)
      · exact .inl (.inr z)
      · exact .inr z
      · exact absurd z q
  · obtain ⟨v, h1, h2⟩ := s.sl i t e
    refine ⟨v, h1, ?_⟩
    cases t with
    | im d => exact Rep.guard hD sm d v h2
    | ml l ds =>
      obtain ⟨g1, g2, lf, us, g3, g4⟩ := h2
      exact ⟨g1, g2, lf, us, sm _ _ g3, Reps.guard hD sm _ _ g4⟩
    | md l ds =>
      obtain ⟨g1, g2, lf, us, g3, g4, g5⟩ := h2
      exact ⟨g1, g2, lf, us, sm _ _ g3, g4, Reps.guard hD sm _ _ g5⟩
    | ob l ds =>
      obtain ⟨g1, g2, lf, dx, fv, g3, g4, g5⟩ := h2
      exact ⟨g1, g2, lf, dx, fv, sm _ _ g3, g4, Reps.guard hD sm _ _ g5⟩
    | ex l ks Φ =>
      obtain ⟨g1, g2, lf, us, g3, g4, g5⟩ := h2
      exact ⟨g1, g2, lf, us, sm _ _ g3, g4, Reps.guard hD sm _ _ g5⟩
    | tb ts => exact h2
    | hd p c g =>
      obtain ⟨g1, g2, g3, g4, g5⟩ := h2
      exact ⟨g1, g2, Rep.guardA (CS := CS) (H2 := H) hD (by rw [g5]; simp) g3, sm _ _ g4, sm _ _ g5⟩
/-- the kept one is written -/
theorem SR.updZ (s : SR CS A B σ H δ) (hz : B.z Dl) (hn : ¬ Mu A B Dl) (hm : Mut (some o)) (hc : NC o := by intro _ _ z; unfold LamX.CodeO at z; cases z) : SR CS A B σ (upd H Dl o) δ := by
  have st : Stay (Un2 A B) H (upd H Dl o) := stay_upd (.inr hz) (s.muts Dl (.inr hz))
  refine ⟨s.len, fun a z => ?_, fun i t e => ?_, s.sep, s.tabs.upd (s.muts Dl (.inr hz)) (.inr hz) hc⟩
  · by_cases q : a = Dl
    · rw [q, upd_same]
      exact hm
    · rw [upd_ne q]
      exact s.muts a z
  · obtain ⟨v, h1, h2⟩ := s.sl i t e
    refine ⟨v, h1, ?_⟩
    cases t with
    | im d => exact Rep.stay st d v h2
    | ml l ds =>
      obtain ⟨g1, g2, lf, us, g3, g4⟩ := h2
      exact ⟨g1, g2, lf, us, by rw [upd_ne (fun z => hn (.inl (by rw [← z]; exact g2)))]; exact g3, Reps.stay st _ _ g4⟩
    | md l ds =>
      obtain ⟨g1, g2, lf, us, g3, g4, g5⟩ := h2
      exact ⟨g1, g2, lf, us, by rw [upd_ne (fun z => hn (.inl (by rw [← z]; exact g2)))]; exact g3, g4, Reps.stay st _ _ g5⟩
    | ob l ds =>
      obtain ⟨g1, g2, lf, dx, fv, g3, g4, g5⟩ := h2
      exact ⟨g1, g2, lf, dx, fv, by rw [upd_ne (fun z => hn (.inl (by rw [← z]; exact g2)))]; exact g3, g4, Reps.stay st _ _ g5⟩
    | ex l ks Φ =>
      obtain ⟨g1, g2, lf, us, g3, g4, g5⟩ := h2
      exact ⟨g1, g2, lf, us, by rw [upd_ne (fun z => hn (.inl (by rw [← z]; exact g2)))]; exact g3, g4, Reps.stay st _ _ g5⟩
    | tb ts => exact h2
    | hd p c g =>
      obtain ⟨g1, g2, g3, g4, g5⟩ := h2
      exact ⟨g1, g2, g3, by rw [upd_ne (fun z => hn (by rw [← z]; exact g2))]; exact g4, by rw [upd_ne (fun z => g3 (by rw [z]; exact .inr hz))]; exact g5⟩
theorem un2_with {a : Addr} (z : Un2 A B a) : Un2 A (B.with Dl) a := by
  rcases z with z | z
  · exact .inl z
  · exact .inr (.inl z)
/-- the kept one is let go -/
theorem SR.unguard (s : SR CS A (B.with Dl) σ H δ) : SR CS A B σ H δ := by
  refine ⟨s.len, fun a z => s.muts a (un2_with z), fun i t e => ?_, s.sep, ⟨s.tabs.tb, fun hB c q hc z => s.tabs.nc hB c q hc (un2_with z)⟩⟩
  obtain ⟨v, h1, h2⟩ := s.sl i t e
  refine ⟨v, h1, ?_⟩
  cases t with
  | im d => exact Rep.anti (fun a z => un2_with z) d v h2
  | ml l ds =>
    obtain ⟨g1, g2, lf, us, g3, g4⟩ := h2
    exact ⟨g1, g2, lf, us, g3, Reps.anti (fun a z => un2_with z) _ _ g4⟩
  | md l ds =>
    obtain ⟨g1, g2, lf, us, g3, g4, g5⟩ := h2
    exact ⟨g1, g2, lf, us, g3, g4, Reps.anti (fun a z => un2_with z) _ _ g5⟩
  | ob l ds =>
    obtain ⟨g1, g2, lf, dx, fv, g3, g4, g5⟩ := h2
    exact ⟨g1, g2, lf, dx, fv, g3, g4, Reps.anti (fun a z => un2_with z) _ _ g5⟩
  | ex l ks Φ =>
    obtain ⟨g1, g2, lf, us, g3, g4, g5⟩ := h2
    exact ⟨g1, g2, lf, us, g3, g4, Reps.anti (fun a z => un2_with z) _ _ g5⟩
  | tb ts => exact h2
  | hd p c g =>
    obtain ⟨g1, g2, g3, g4, g5⟩ := h2
    exact ⟨g1, g2, fun z => g3 (un2_with z), g4, g5⟩
/-- from a block's step to the def's -/
theorem Ext.unguard {A1 : AP1} (e : Ext A (B.with Dl) H A1 H1) : Ext A B H A1 H1 := ⟨e.out', e.mono, e.new, e.there, e.tup⟩
theorem Ext.guard {A1 : AP1} (e : Ext A B H A1 H1) : Ext A (B.with Dl) H A1 H1 := ⟨e.out', e.mono, e.new, e.there, e.tup⟩
/-- a step, then what H didn't know is written -/
theorem Ext.updN {A1 : AP1} (e : Ext A B H A1 H1) (hD : H Dl = none) : Ext A B H A1 (L2.upd H1 Dl o) := by
  refine ⟨fun a u n hN h => ?_, e.mono, e.new, fun a h => ?_, fun a us h => ?_⟩
  · rw [upd_ne (ne_of_none h hD)]
    exact e.out' a u n hN h
  · by_cases q : a = Dl
    · rw [q, upd_same]
      simp
    · rw [upd_ne q]
      exact e.there a h
  · rw [upd_ne (ne_of_none h hD)]
    exact e.tup a us h
end

/-- a clause's tests -/
abbrev XTs (X : Cx) (CS : Addr) (ifs : List Expr) (δ : Sto) (b : Bool) (δ' : Sto) : Prop := PTs X ifs (tT CS δ b δ')
theorem pts_weak {ifs : List Expr} {t t' : TT} (h : PTs X ifs t) (w : ∀ σ H Q, t' σ H Q → t σ H Q) : PTs X ifs t' := ⟨fun pins s σ H Q I q => h.run pins s σ H Q I (w σ H Q q)⟩
theorem xts_nil {δ : Sto} : XTs X CS [] δ true δ := pts_weak pts_nil fun σ H Q ⟨A, B, s, k⟩ => k H Ext.refl s
theorem xts_one {c : Expr} {δ δ1 : Sto} {b : Bool} (h : XT X CS c δ b δ1) : XTs X CS [c] δ b δ1 := pts_one h

section
variable {tg iter elt : Expr} {ifs : List Expr} {scope : Scope} {own : List (Str × Nat)} {pos : Pos} {δ δ1 δF : Sto} {ds accF : List D}
theorem lc_read (hl : LFs ds = true) (hn : ds.length ≤ 1000) (I : Nat → List D → Sto → Prop) (ws : List Nat) (h0 : I 0 [] (forget ws δ1))
    (gg : TG) (tt : TT) (te : TE)
    (hs : ∀ (i : Nat) (d : D) (acc : List D) (δ : Sto), ds[i]? = some d → I i acc δ → ∃ us δ2 b δ3, (∀ j ∈ us, j ∈ ws) ∧ (∀ v σ H Q, gX CS us d δ δ2 v σ H Q → gg v σ H Q) ∧ (∀ σ H Q, tT CS δ2 b δ3 σ H Q → tt σ H Q) ∧
      (b = true → ∃ x δ4, (∀ σ H Q, tE CS δ3 (.d x) δ4 σ H Q → te σ H Q) ∧ LF x = true ∧ I (i + 1) (acc ++ [x]) (forget ws δ4)) ∧ (b = false → I (i + 1) acc (forget ws δ3)))
    (hF : ∀ acc δ, I ds.length acc δ → acc = accF ∧ δ = δF) (hf : LFs accF = true) (σ : L2.St) (H : Hp) (Q : VK) (h : tE CS δ (.n (.lst accF)) δF σ H Q) : tLc (iX CS δ ds δ1) gg tt te ws σ H Q := by
  obtain ⟨A, B, s, k⟩ := h
  refine ⟨A, B, s, fun J H1 e1 s1 wk Dl hD => ?_⟩
  have hDH : H Dl = none := by
    cases q : H Dl with
    | none => rfl
    | some u => exact absurd hD (e1.there Dl (by rw [q]; simp))
  have nM : ¬ Mu A (B.with Dl) Dl := fun z => s1.tracked (.inl z) hD
  have s1w : SR CS A B (wipe σ ws) H1 (forget ws δ1) := (s1.less (forget_len δ1 ws) fun i t e => (forget_some e).1).lessσ (wipe_length σ ws) fun i t e => wipe_out (forget_some e).2
  refine ⟨fun i m H' => m = ds.length - i ∧ i ≤ ds.length ∧ ∃ acc us δ', H' Dl = some (.lst us) ∧ Reps CS H' (fun _ => False) acc us ∧ LFs acc = true ∧ acc.length ≤ i ∧ Ext A B H1 A H' ∧ SR CS A (B.with Dl) (wipe σ ws) H' δ' ∧ I i acc δ' ∧ (∀ j t, δ'[j]? = some (some t) → j ∉ ws),
    ⟨ds.length, by simp, Nat.zero_le _, [], [], forget ws δ1, upd_same, rfl, rfl, Nat.le_refl _, Ext.refl.updN hD, s1w.guard hD trivial, h0, fun j t e => (forget_some e).2⟩, ?_⟩
  rintro i m H' ⟨rfl, hi, acc, us, δ', hDl, hr, hlf, hal, ex, sr, hI, hw⟩
  by_cases hlt : i < ds.length
  · refine .inr ⟨wk.goes i A H' hlt ex, fun H3 => i + 1 ≤ ds.length ∧ ∃ acc us δ', H3 Dl = some (.lst us) ∧ Reps CS H3 (fun _ => False) acc us ∧ LFs acc = true ∧ acc.length ≤ i + 1 ∧ Ext A B H1 A H3 ∧ SR CS A (B.with Dl) (wipe σ ws) H3 δ' ∧ I (i + 1) acc δ' ∧ (∀ j t, δ'[j]? = some (some t) → j ∉ ws), fun H3 h3 => ⟨ds.length - (i + 1), by omega, rfl, h3.1, h3.2⟩, fun x H2 hy => ?_⟩
    obtain ⟨sm, d, hd', rp⟩ := wk.yields i A H' x H2 hlt ex hy
    obtain ⟨vs, δ2, b, δ3, q0, q1, q2, q3, q4⟩ := hs i d acc δ' hd' hI
    refine q1 _ _ _ _ ⟨A, B.with Dl, sr.same sm, Rep.lf d x (LFs_get hl hd') rp, fun σ2 l2 f2 s2 => ?_⟩
    have ew : wipe σ2 ws = wipe σ ws := (wipe_same l2 q0 f2).trans (wipe_same (wipe_length σ ws) (ws := ws) (fun _ z => z) fun j hj => wipe_out hj)
    refine ⟨ew, q2 _ _ _ ⟨A, B.with Dl, s2, fun H3 e3 s3 => ?_⟩⟩
    have d3 : H3 Dl = some (.lst us) := e3.out Dl _ nM (sm _ _ hDl)
    have x3 : Ext A B H1 A H3 := (ex.trans (Same.ext sm)).trans e3.unguard
    cases b with
    | false =>
      show _ ∧ _
      refine ⟨hlt, acc, us, forget ws δ3, d3, ?_, hlf, Nat.le_succ_of_le hal, x3, ?_, q4 rfl, fun j t e => (forget_some e).2⟩
      · exact Reps.lf _ _ hlf (Reps.stay e3.stay _ _ (Reps.stay (Same.stay sm) _ _ (Reps.lf (A' := Un2 A (B.with Dl)) _ _ hlf hr)))
      · rw [← ew]
        exact (s3.less (forget_len δ3 ws) fun i t e => (forget_some e).1).lessσ (wipe_length σ2 ws) fun i t e => wipe_out (forget_some e).2
    | true =>
      obtain ⟨x', δ4, g1, g2, g3⟩ := q3 rfl
      refine g1 _ _ _ ⟨A, B.with Dl, s3, fun y H4 e4 s4 q5 => ?_⟩
      have d4 : H4 Dl = some (.lst us) := e4.out Dl _ nM d3
      have hr4 : Reps CS H4 (fun _ => False) acc us := Reps.lf _ _ hlf (Reps.stay e4.stay _ _ (Reps.stay e3.stay _ _ (Reps.stay (Same.stay sm) _ _ (Reps.lf (A' := Un2 A (B.with Dl)) _ _ hlf hr))))
      have st : Stay (fun a => a = Dl) H4 (upd H4 Dl (.lst (us ++ [y]))) := stay_upd rfl (by rw [d4]; trivial)
      have lf2 : LFs (acc ++ [x']) = true := by
        rw [LFs_app, hlf]
        simp [LFs, g2]
      refine ⟨us, d4, by rw [hr4.len]; exact small1000 (by omega), hlt, acc ++ [x'], us ++ [y], forget ws δ4, upd_same, ?_, lf2, by simp; omega, (x3.trans e4.unguard).updN hD, ?_, g3, fun j t e => (forget_some e).2⟩
      · exact Reps.lf _ _ lf2 (Reps.stay st _ _ (Reps.app (Reps.lf (A' := fun a => a = Dl) _ _ hlf hr4) (Reps.one (Rep.lf _ _ g2 q5))))
      · rw [← ew]
        exact ((s4.less (forget_len δ4 ws) fun i t e => (forget_some e).1).lessσ (wipe_length σ2 ws) fun i t e => wipe_out (forget_some e).2).updZ (.inr rfl) nM trivial
  · have e : i = ds.length := by omega
    subst e
    obtain ⟨rfl, rfl⟩ := hF acc δ' hI
    refine .inl ⟨wk.stops A H' ex, k (.ref Dl) H' (e1.trans ex) (sr.unguard.lessσ (wipe_length σ ws).symm fun j t e => (wipe_out (hw j t e)).symm) ?_⟩
    exact ⟨Dl, us, rfl, fun z => z hDH, hDl, Reps.lf _ _ hlf hr⟩
end
section
variable {tg iter elt : Expr} {ifs : List Expr} {scope : Scope} {own : List (Str × Nat)} {pos spos : Pos} {δ δ1 δF : Sto} {ds accF : List D}
/-- what is asked of a comprehension's turns -/
structure LcT (X : Cx) (CS : Addr) (N : List Str) (vs' ls' : List Nat) (gs' : List Str) (scope : Scope) (tg elt : Expr) (ifs : List Expr) (ws : List Nat) (ds : List D) (I : Nat → List D → Sto → Prop) (i : Nat) (d : D) (acc : List D) (δ : Sto) : Prop where
  ex : ∃ us δ2 b δ3, (us.all fun j => ws.contains j) = true ∧ (∀ Y, Blk X scope Y → Ctx Y Y.env.scope N vs' ls' gs' → XG Y CS tg us d δ δ2) ∧ (∀ Y, Blk X scope Y → Ctx Y Y.env.scope N vs' ls' gs' → XTs Y CS ifs δ2 b δ3) ∧
      (b = true → ∃ x δ4, (∀ Y, Blk X scope Y → Ctx Y Y.env.scope N vs' ls' gs' → XE Y CS elt δ3 (.d x) δ4) ∧ LF x = true ∧ I (i + 1) (acc ++ [x]) (forget ws δ4)) ∧ (b = false → I (i + 1) acc (forget ws δ3))
/-- the turns' data, as one datum -/
structure LcK where
  us : List Nat
  d : D
  δ : Sto
  δ2 : Sto
theorem xe_lc (C : Ctx X sc N vs ls gs) (vs' ls' : List Nat) (gs' : List Str) (hi : XI X CS tg iter δ ds δ1) (ok : blkC N sc scope own = true) (hbk : bkOk N vs' ls' gs' scope = true) (hl : LFs ds = true) (hn : ds.length ≤ 1000) (I : Nat → List D → Sto → Prop) (h0 : I 0 [] (forget (own.map (·.2)) δ1))
    (hs : ∀ (i : Nat) (d : D) (acc : List D) (δ : Sto), ds[i]? = some d → I i acc δ → LcT X CS N vs' ls' gs' scope tg elt ifs (own.map (·.2)) ds I i d acc δ) (hF : ∀ acc δ, I ds.length acc δ → acc = accF ∧ δ = δF) (hf : LFs accF = true)
    (hfs : ∀ x, foldedSetIterable iter X.env x = pure x := by intro _; rfl) : XE X CS (.ListComp elt [⟨tg, iter, ifs, 0⟩] scope pos) δ (.n (.lst accF)) δF := by
  have hB : ∀ (s : Shared) (H : Hp) (C : Addr) (cl : List (Str × Addr)) (fp : List Addr), Blk X scope (X.blk s H scope (compEnvC scope cl C X.env) fp) := fun s H C cl fp => ⟨s, H, C, cl, fp, rfl⟩
  refine pe_weak (pe_lc (g := fun v σ H Q => ∃ q : LcK, (∀ Y, Blk X scope Y → XG Y CS tg q.us q.d q.δ q.δ2) ∧ gX CS q.us q.d q.δ q.δ2 v σ H Q) (tt := fun σ H Q => ∃ q : Sto × Bool × Sto, (∀ Y, Blk X scope Y → XTs Y CS ifs q.1 q.2.1 q.2.2) ∧ tT CS q.1 q.2.1 q.2.2 σ H Q)
    (te := fun σ H Q => ∃ q : Sto × D × Sto, (∀ Y, Blk X scope Y → XE Y CS elt q.1 (.d q.2.1) q.2.2) ∧ tE CS q.1 (.d q.2.1) q.2.2 σ H Q) C.calm (by rw [C.hN]; exact C.nd) hi (by rw [C.hN, C.hsc]; exact blkOk_by ok)
    (fun s H Ca cl fp => ⟨fun pins s' σ H' v u Q I r ⟨q, h1, h2⟩ => (h1 _ (hB s H Ca cl fp)).run pins s' σ H' v u Q I r h2⟩) (fun s H Ca cl fp => ⟨fun pins s' σ H' Q I ⟨q, h1, h2⟩ => (h1 _ (hB s H Ca cl fp)).run pins s' σ H' Q I h2⟩)
    (fun s H Ca cl fp => ⟨fun pins s' σ H' Q I ⟨q, h1, h2⟩ => (h1 _ (hB s H Ca cl fp)).run pins s' σ H' Q I h2⟩) hfs) fun σ H Q h => ?_
  refine lc_read (accF := accF) (δF := δF) hl hn I (own.map (·.2)) h0 _ _ _ (fun i d acc δ' hd hI => ?_) hF hf σ H Q h
  obtain ⟨us, δ2, b, δ3, q0, q1, q2, q3, q4⟩ := (hs i d acc δ' hd hI).ex
  refine ⟨us, δ2, b, δ3, fun j hj => List.contains_iff_mem.mp (List.all_eq_true.mp q0 j hj), fun v σ H Q z => ⟨⟨us, d, δ', δ2⟩, fun Y hY => q1 Y hY (C.blk hY hbk), z⟩, fun σ H Q z => ⟨(δ2, b, δ3), fun Y hY => q2 Y hY (C.blk hY hbk), z⟩, fun hb => ?_, q4⟩
  obtain ⟨x, δ4, g1, g2, g3⟩ := q3 hb
  exact ⟨x, δ4, fun σ H Q z => ⟨(δ3, x, δ4), fun Y hY => g1 Y hY (C.blk hY hbk), z⟩, g2, g3⟩
/-- y = [..] on one line -/
theorem xss_setLc {rest : List Stmt} {P : Post} {nm : Str} {p' : Pos} (C : Ctx X sc N vs ls gs) (k : Nat) (hik : N[k]? = some nm) (hlk : ls.contains k = true) (hyl : locB sc nm = true) (vs' ls' : List Nat) (gs' : List Str) (hi : XI X CS tg iter δ ds δ1) (ok : blkC N sc scope own = true) (hbk : bkOk N vs' ls' gs' scope = true) (hl : LFs ds = true) (hn : ds.length ≤ 1000) (I : Nat → List D → Sto → Prop) (h0 : I 0 [] (forget (own.map (·.2)) δ1))
    (hs : ∀ (i : Nat) (d : D) (acc : List D) (δ : Sto), ds[i]? = some d → I i acc δ → LcT X CS N vs' ls' gs' scope tg elt ifs (own.map (·.2)) ds I i d acc δ) (hF : ∀ acc δ, I ds.length acc δ → acc = accF ∧ δ = δF) (hf : LFs accF = true)
    (hsw : swapsWith (.ListComp elt [⟨tg, iter, ifs, 0⟩] scope pos) (some (.Name nm p')) spos.line X.env = pure true) (hlen : k < δF.length) (h2 : XSs X CS rest (δF.set k (some (.im (.lst accF)))) P)
    (hfs : ∀ x, foldedSetIterable iter X.env x = pure x := by intro _; rfl) : XSs X CS (.Assign [.Name nm p'] (.ListComp elt [⟨tg, iter, ifs, 0⟩] scope pos) spos :: rest) δ P := by
  have hB : ∀ (s : Shared) (H : Hp) (C : Addr) (cl : List (Str × Addr)) (fp : List Addr), Blk X scope (X.blk s H scope (compEnvC scope cl C X.env) fp) := fun s H C cl fp => ⟨s, H, C, cl, fp, rfl⟩
  have hloc : X.env.scope.names.lookup nm = some .local := by
    rw [C.hsc]
    unfold locB at hyl
    cases q : sc.names.lookup nm with
    | none => rw [q] at hyl; simp at hyl
    | some k => rw [q] at hyl; cases k <;> simp_all
  refine pss_weak (pss_cons (ps_setLc (i := k) (g := fun v σ H Q => ∃ q : LcK, (∀ Y, Blk X scope Y → XG Y CS tg q.us q.d q.δ q.δ2) ∧ gX CS q.us q.d q.δ q.δ2 v σ H Q) (tt := fun σ H Q => ∃ q : Sto × Bool × Sto, (∀ Y, Blk X scope Y → XTs Y CS ifs q.1 q.2.1 q.2.2) ∧ tT CS q.1 q.2.1 q.2.2 σ H Q)
    (te := fun σ H Q => ∃ q : Sto × D × Sto, (∀ Y, Blk X scope Y → XE Y CS elt q.1 (.d q.2.1) q.2.2) ∧ tE CS q.1 (.d q.2.1) q.2.2 σ H Q) C.calm (by rw [C.hN]; exact C.nd) (by rw [C.hN]; exact hik) hloc hsw hi (by rw [C.hN, C.hsc]; exact blkOk_by ok)
    (fun s H Ca cl fp => ⟨fun pins s' σ H' v u Q I r ⟨q, h1, h2⟩ => (h1 _ (hB s H Ca cl fp)).run pins s' σ H' v u Q I r h2⟩) (fun s H Ca cl fp => ⟨fun pins s' σ H' Q I ⟨q, h1, h2⟩ => (h1 _ (hB s H Ca cl fp)).run pins s' σ H' Q I h2⟩)
    (fun s H Ca cl fp => ⟨fun pins s' σ H' Q I ⟨q, h1, h2⟩ => (h1 _ (hB s H Ca cl fp)).run pins s' σ H' Q I h2⟩) hfs) h2) fun D σ H ⟨A, B, s, kk⟩ => ?_
  unfold tSeq tAsg gName
  dsimp only
  refine lc_read (accF := accF) (δF := δF) hl hn I (own.map (·.2)) h0 _ _ _ (fun i d acc δ' hd hI => ?_) hF hf σ H _ ⟨A, B, s, fun v H1 e1 s1 q1 => tS_step (P := P) e1 (s1.set hlen (RR.toD s q1)) kk⟩
  obtain ⟨us, δ2, b, δ3, q0, q1, q2, q3, q4⟩ := (hs i d acc δ' hd hI).ex
  refine ⟨us, δ2, b, δ3, fun j hj => List.contains_iff_mem.mp (List.all_eq_true.mp q0 j hj), fun v σ H Q z => ⟨⟨us, d, δ', δ2⟩, fun Y hY => q1 Y hY (C.blk hY hbk), z⟩, fun σ H Q z => ⟨(δ2, b, δ3), fun Y hY => q2 Y hY (C.blk hY hbk), z⟩, fun hb => ?_, q4⟩
  obtain ⟨x, δ4, g1, g2, g3⟩ := q3 hb
  exact ⟨x, δ4, fun σ H Q z => ⟨(δ3, x, δ4), fun Y hY => g1 Y hY (C.blk hY hbk), z⟩, g2, g3⟩
end
end K06
/-! K7: defs and their calls. -/
namespace K06
open PySem PySem.Spec L2
variable {X Y : Cx} {CS : Addr} {sc : Scope} {N : List Str} {vs ls : List Nat} {gs : List Str}

/-! ### promises -/
/-- a def that changes nothing: its answer r for the data ds -/
def spD (CS : Addr) (R : List D → D → Prop) : Sp := fun vs H Q _ => ∃ ds r, R ds r ∧ Reps CS H (fun _ => False) ds vs ∧ ∀ v H', Same H H' → Rep CS H' (fun a => H a ≠ none) r v → Q v H'
/-- a def that draws: the hand ahead of its other arguments -/
def spH (CS : Addr) (R : Hand → List D → D → Hand → Prop) : Sp := fun vs H Q _ => ∃ p c g ds r g' ws, R g ds r g' ∧ g'.cells = g.cells ∧ vs = .ref p :: ws ∧ c ≠ p ∧ H p = some (.lst (g.vals c)) ∧ H c = some (.lst (g.cells.map V.int)) ∧ Reps CS H (fun a => a = p) ds ws ∧
  ∀ v H', (∀ a o, a ≠ p → H a = some o → H' a = some o) → H' p = some (.lst (g'.vals c)) → Rep CS H' (fun a => H a ≠ none) r v → Q v H'
/-- a def under its name -/
structure CalP (P : Program) (w : World) (K : PySem.W.Frag) (mg : Str → Option Value) (base : Heap) (k : Nat) (nm : Str) (sp : Sp) : Prop where
  ex : ∃ (f : Addr) (fd : FuncData) (ps : List Str), FnOk P w K mg base CX0 k f fd ps sp ∧ mg nm = some (.ref f) ∧ PySem.W.keepIn K (.ref f) = true ∧ Binds K fd ps []
abbrev CalX (X : Cx) (k : Nat) (nm : Str) (sp : Sp) : Prop := CalP X.prog X.w X.K X.mg X.base k nm sp
theorem CalP.blk {scope : Scope} {k : Nat} {nm : Str} {sp : Sp} (c : CalX X k nm sp) (hB : Blk X scope Y) : CalX Y k nm sp := by
  obtain ⟨s, H, Ca, cl, fp, rfl⟩ := hB.ex
  exact c
theorem Room.blk {scope : Scope} {k : Nat} (hr : Room k X.A) (hB : Blk X scope Y) : Room k Y.A := by
  obtain ⟨s, H, Ca, cl, fp, rfl⟩ := hB.ex
  exact hr
theorem StdC.blk {scope : Scope} (S : StdC X.K CS) (hB : Blk X scope Y) : StdC Y.K CS := by
  obtain ⟨s, H, Ca, cl, fp, rfl⟩ := hB.ex
  exact S

/-! ### calls -/
section
variable {a e : Expr} {es : List Expr} {pos p2 : Pos} {δ δ1 : Sto} {r : D} {rs : List Res} {ds : List D} {k kc : Nat} {nm : Str} {R : List D → D → Prop} {RH : Hand → List D → D → Hand → Prop}
/-- what is handed over -/
def CntC (δ : Sto) : Res → D → Prop
  | .d x, d => x = d
  | .n x, d => x = d
  | .m l, d => ∃ (i : Nat) (ds' : List D), δ[i]? = some (some (Slot.ml l ds')) ∧ d = .lst ds'
def ArgC (δ : Sto) : List Res → List D → Prop
  | [], ds => ds = []
  | r :: rs, ds => ∃ d ds', ds = d :: ds' ∧ CntC δ r d ∧ ArgC δ rs ds'
section
variable {A : AP1} {B : Bo} {H H0 : Hp} {σ : L2.St} {v : V}
/-- as the callee takes it: p its lent thing, or nothing -/
theorem CntC.at {d : D} {rr : Res} {P : AP1} (c : CntC δ rr d) (hP : ∀ a, P a → Mu A B a) (hO : ∀ (i : Nat) (l : Addr) (ds' : List D), δ[i]? = some (some (Slot.ml l ds')) → ¬ P l) (t : ∀ a, Un2 A B a → H0 a ≠ none) (s : SR CS A B σ H δ) (h : RR CS A B H0 H rr v) : Rep CS H P d v := by
  cases rr with
  | d x =>
    have e : x = d := c
    subst e
    exact Rep.anti (fun a z => .inl (hP a z)) x v h
  | n x =>
    have e : x = d := c
    subst e
    exact Rep.anti (fun a z => t a (.inl (hP a z))) x v h
  | m l =>
    obtain ⟨i, ds', e, rfl⟩ := c
    obtain ⟨w, e1, e2, hA, lf, us, h1, h2⟩ := s.sl i _ e
    exact ⟨l, us, h, hO i l ds' e, h1, Reps.lf _ _ lf h2⟩
theorem ArgC.at {P : AP1} (hP : ∀ a, P a → Mu A B a) (hO : ∀ (i : Nat) (l : Addr) (ds' : List D), δ[i]? = some (some (Slot.ml l ds')) → ¬ P l) (t : ∀ a, Un2 A B a → H0 a ≠ none) (s : SR CS A B σ H δ) : ∀ {rs : List Res} {ds : List D} {ws : List V}, ArgC δ rs ds → RRs CS A B H0 H rs ws → Reps CS H P ds ws
  | [], ds, ws, c, h => by
    have e1 : ds = [] := c
    have e2 : ws = [] := h
    rw [e1, e2]
    exact rfl
  | r :: rs, ds, ws, c, h => by
    obtain ⟨d, ds', rfl, c1, c2⟩ := c
    obtain ⟨v, w, rfl, h1, h2⟩ := h
    exact ⟨v, w, rfl, c1.at hP hO t s h1, ArgC.at hP hO t s c2 h2⟩
end
theorem argc_ds (δ : Sto) : ∀ ds : List D, ArgC δ (ResDs ds) ds
  | [] => rfl
  | d :: ds => ⟨d, ds, rfl, rfl, argc_ds δ ds⟩
/-- f(..) -/
theorem xe_call (c : CalX X kc nm (spD CS R)) (hr : Room k X.A) (hk : kc ≤ k) (C : Ctx X sc N vs ls gs) (j : Nat) (hj : gs[j]? = some nm) (ha : XA X CS (e :: es) δ rs δ1) (hc : ArgC δ1 rs ds) (hR : R ds r) (he : starEach (e :: es) X.env = (false, eval e X.env) :: starEach es X.env := by rfl) (hpl : (backTo pos (starEach es X.env)).any (·.1) = false := by rfl) :
    XE X CS (.Call (.Name nm p2) (e :: es) [] pos) δ (.n r) δ1 := by
  obtain ⟨f, fd, ps, F, hm, hkp, hb⟩ := c.ex
  obtain ⟨g1, g2⟩ := C.gl j nm hj
  refine pe_weak (pe_call F (hr.mono hk) g1 hm hkp hb .nil pass0 ha g2 he hpl) fun σ H Q ⟨A, B, s, kk⟩ => ⟨A, B, s, fun ws H1 e1 s1 q1 => ?_⟩
  refine ⟨ds, r, hR, ?_, fun v H2 sm q2 => ?_⟩
  · rw [List.append_nil]
    exact ArgC.at (fun a z => z.elim) (fun i l ds' _ z => z) (fun a z => s.tracked z) s1 hc q1
  · exact kk v H2 (e1.trans (Same.ext sm)) (s1.same sm) (Rep.anti (fun a z => e1.there a z) r v q2)
/-- f() -/
theorem xe_call0 (c : CalX X kc nm (spD CS R)) (hr : Room k X.A) (hk : kc ≤ k) (C : Ctx X sc N vs ls gs) (j : Nat) (hj : gs[j]? = some nm) (hR : R [] r) : XE X CS (.Call (.Name nm p2) [] [] pos) δ (.n r) δ := by
  obtain ⟨f, fd, ps, F, hm, hkp, hb⟩ := c.ex
  obtain ⟨g1, g2⟩ := C.gl j nm hj
  refine pe_weak (pe_call0 F (hr.mono hk) g1 hm hkp hb .nil pass0 g2) fun σ H Q ⟨A, B, s, kk⟩ => ?_
  exact ⟨[], r, hR, rfl, fun v H2 sm q2 => kk v H2 (Same.ext sm) (s.same sm) q2⟩
/-- f(hand, ..) -/
theorem xe_callH {p cc : Addr} {g g' : Hand} {hn : Str} {ph : Pos} (c : CalX X kc nm (spH CS RH)) (hr : Room k X.A) (hk : kc ≤ k) (C : Ctx X sc N vs ls gs) (j : Nat) (hj : gs[j]? = some nm) (m : Nat) (hmN : N[m]? = some hn) (hmv : vs.contains m = true) {g0 : Hand} (hd0 : δ[m]? = some (some (.hd p cc g0)))
    (ha : XA X CS es δ rs δ1) (hd1 : δ1[m]? = some (some (.hd p cc g))) (hc : ArgC δ1 rs ds) (hR : RH g ds r g') (hg : g'.cells = g.cells) (he : starEach (.Name hn ph :: es) X.env = (false, eval (.Name hn ph) X.env) :: starEach es X.env := by rfl) (hpl : (backTo pos (starEach es X.env)).any (·.1) = false := by rfl) :
    XE X CS (.Call (.Name nm p2) (.Name hn ph :: es) [] pos) δ (.n r) (δ1.set m (some (.hd p cc g'))) := by
  obtain ⟨f, fd, ps, F, hm, hkp, hb⟩ := c.ex
  obtain ⟨g1, g2⟩ := C.gl j nm hj
  refine pe_weak (pe_call F (hr.mono hk) g1 hm hkp hb .nil pass0 (xa_cons (xe_m (CS := CS) C m hmN hmv hd0 rfl) ha he) g2 he hpl) fun σ H Q ⟨A, B, s, kk⟩ => ⟨A, B, s, fun ws H1 e1 s1 q1 => ?_⟩
  obtain ⟨v0, w0, rfl, hv0, q2⟩ := q1
  have ev : v0 = .ref p := hv0
  subst ev
  obtain ⟨v', f1, f2, fA, nc, f3, f4⟩ := s1.sl m _ hd1
  have ncp : cc ≠ p := fun z => nc (z ▸ .inl fA)
  refine ⟨p, cc, g, ds, r, g', w0, hR, hg, by rw [List.append_nil], ncp, f3, f4, ?_, fun v H2 sm hp2 q3 => ?_⟩
  · refine ArgC.at (fun a z => z ▸ fA) (fun i l ds' e z => ?_) (fun a z => s.tracked z) s1 hc q2
    have := s1.sep i m _ _ p e hd1 (by rw [z]; rfl) rfl
    rw [this] at e
    rw [hd1] at e
    cases e
  · have mt : Mut (H1 p) := by rw [f3]; trivial
    have ntup : ∀ (a : Addr) (us : List V), H1 a = some (.tup us) → a ≠ p := fun a us z y => by rw [y, f3] at z; cases z
    have ex2 : Ext A B H1 A H2 := ⟨fun a o n _ z => sm a o (fun y => n (y ▸ fA)) z, fun _ z => z, fun _ z => .inl z, fun a z => by
      by_cases y : a = p
      · rw [y, hp2]
        simp
      · cases q : H1 a with
        | none => exact absurd q z
        | some o => rw [sm a o y q]; simp, fun a us z => sm a _ (ntup a us z) z⟩
    have sr2 : SR CS A B σ H2 (δ1.set m (some (.hd p cc g'))) := by
      obtain ⟨x1, x2⟩ := hd_write s1 hd1 hg
      have sm2 : Same (upd H1 p (.lst (g'.vals cc))) H2 := fun a o z => by
        by_cases y : a = p
        · rw [y] at z ⊢
          rw [upd_same] at z
          cases z
          exact hp2
        · rw [upd_ne y] at z
          exact sm a o y z
      exact x2.same sm2
    exact kk v H2 (e1.trans ex2) sr2 (Rep.anti (fun a z => e1.there a z) r v q3)
end

theorem Tbs.nil {A : AP1} {b z : AP1} {H : Hp} : Tbs A ⟨b, z, []⟩ H := ⟨fun p hp => (by cases hp), fun h => absurd rfl h⟩
/-! ### a def's body keeps its promise -/
section
variable {P : Program} {w : World} {K : PySem.W.Frag} {mg : Str → Option Value} {base : Heap} {nm : Str} {st : Stmt} {f : Addr} {fd : FuncData} {ps : List Str} {k : Nat} {R : List D → D → Prop} {RH : Hand → List D → D → Hand → Prop}
def startD (N : List Str) (ss : List Slot) : Sto := ss.map some ++ List.replicate (N.length - ss.length) none
theorem start_sr {A : AP1} {B : Bo} {H : Hp} {ss : List Slot} {ws : List V} (hB : Tbs A B H) (hl : ws.length = ss.length) (hm : ∀ a, Un2 A B a → Mut (H a)) (h : ∀ (i : Nat) (s : Slot) (v : V), ss[i]? = some s → ws[i]? = some v → SlotOk CS A B H s v)
    (sep : ∀ (i j : Nat) (s s' : Slot) (l : Addr), ss[i]? = some s → ss[j]? = some s' → s.addr = some l → s'.addr = some l → i = j) : SR CS A B (L2.start N ws) H (startD N ss) := by
  have gi : ∀ (i : Nat) (s : Slot), (startD N ss)[i]? = some (some s) → ss[i]? = some s := fun i s e => by
    unfold startD at e
    by_cases q : i < ss.length
    · rw [List.getElem?_append_left (by simpa using q), List.getElem?_map] at e
      cases q2 : ss[i]? with
      | none => rw [q2] at e; cases e
      | some t => rw [q2] at e; simpa using e
    · rw [List.getElem?_append_right (by simpa using q)] at e
      have := List.mem_of_getElem? e
      rw [List.mem_replicate] at this
      cases this.2
  refine ⟨by simp [L2.start, startD, hl], hm, fun i s e => ?_, fun i j s s' l e1 e2 => sep i j s s' l (gi i s e1) (gi j s' e2), hB⟩
  have e' := gi i s e
  have hi : i < ws.length := by rw [hl]; exact (List.getElem?_eq_some_iff.mp e').1
  refine ⟨ws[i], ?_, h i s _ e' (by simp [hi])⟩
  unfold L2.start
  rw [List.getElem?_append_left (by simpa using hi)]
  simp [hi]
theorem def_D (F : L2.Fun K nm nm st f fd) (S : FnScope N ps (defScope st)) (len : ∀ ds r, R ds r → ds.length = ps.length)
    (hbody : ∀ (cdv : Value) (A : Around) (outer : List Env) (s : Shared) (H : Hp) (E : XK) (ds : List D) (r : D), Room k (A.deeper (PyProof.Rows.envOfC nm (defScope st) s.heap.objs.size f cdv)) → R ds r →
      XSs (cxOf CX0 P w K mg base N nm (defScope st) f cdv A outer s H E).nox CS (defBody st) (startD N (ds.map Slot.im)) { nx := fun _ => r = .non, rt := fun _ d => d = r }) : FnOk P w K mg base CX0 (k + 1) f fd ps (spD CS R) := by
  refine F.ok S (fun vs H Q E h => ?_) (fun cdv A outer s H vs Q E hr h => ?_)
  · obtain ⟨ds, r, hR, h1, _⟩ := h
    rw [h1.len, len ds r hR]
  · obtain ⟨ds, r, hR, h1, q⟩ := h
    refine ⟨_, hbody cdv A outer s H E ds r hr hR, fun _ => False, ⟨fun _ => False, fun _ => False, []⟩, ?_, ?_, ?_, fun _ _ _ _ z => z.elim, fun _ _ _ _ z => z.elim⟩
    · refine start_sr Tbs.nil (by rw [List.length_map]; exact h1.len) (fun a z => by rcases z with (z | z) | z <;> exact z.elim) (fun i t v e ev => ?_) fun i j t t' l e _ a => ?_
      · rw [List.getElem?_map] at e
        cases q2 : ds[i]? with
        | none => rw [q2] at e; cases e
        | some d =>
          rw [q2] at e
          cases e
          obtain ⟨v', g1, g2⟩ := h1.get q2
          rw [ev] at g1
          cases g1
          exact Rep.anti (fun a z => by rcases z with (z | z) | z <;> exact z) d v g2
      · rw [List.getElem?_map] at e
        cases q2 : ds[i]? with
        | none => rw [q2] at e; cases e
        | some d =>
          rw [q2] at e
          cases e
          cases a
    · intro σ' H' A' δ' p e s'
      have p' : r = .non := p
      subst p'
      exact q .non H' (fun a o z => e.out' a o (fun y => by rcases y with y | y <;> exact y) (.inl rfl) z) rfl
    · intro σ' H' A' δ' d v p e s' rp
      have p' : d = r := p
      subst p'
      exact q v H' (fun a o z => e.out' a o (fun y => by rcases y with y | y <;> exact y) (.inl rfl) z) (Rep.anti (fun a z => ⟨z, fun y => y⟩) d v rp)
theorem def_H (F : L2.Fun K nm nm st f fd) (S : FnScope N ps (defScope st)) (len : ∀ g ds r g', RH g ds r g' → ds.length + 1 = ps.length)
    (hbody : ∀ (cdv : Value) (A : Around) (outer : List Env) (s : Shared) (H : Hp) (E : XK) (p c : Addr) (g : Hand) (ds : List D) (r : D) (g' : Hand), Room k (A.deeper (PyProof.Rows.envOfC nm (defScope st) s.heap.objs.size f cdv)) → RH g ds r g' → g'.cells = g.cells →
      XSs (cxOf CX0 P w K mg base N nm (defScope st) f cdv A outer s H E).nox CS (defBody st) (startD N (.hd p c g :: ds.map Slot.im)) { nx := fun _ => False, rt := fun δ d => d = r ∧ δ[0]? = some (some (.hd p c g')) }) : FnOk P w K mg base CX0 (k + 1) f fd ps (spH CS RH) := by
  refine F.ok S (fun vs H Q E h => ?_) (fun cdv A outer s H vs Q E hr h => ?_)
  · obtain ⟨p, c, g, ds, r, g', ws, hR, _, rfl, _, _, _, h1, _⟩ := h
    rw [List.length_cons, h1.len, len g ds r g' hR]
  · obtain ⟨p, c, g, ds, r, g', ws, hR, hg, rfl, ncp, hp, hc, h1, q⟩ := h
    refine ⟨_, hbody cdv A outer s H E p c g ds r g' hr hR hg, fun _ => False, ⟨fun a => a = p, fun _ => False, []⟩, ?_, fun _ _ _ _ z => z.elim, ?_, fun _ _ _ _ z => z.elim, fun _ _ _ _ z => z.elim⟩
    · refine start_sr Tbs.nil (by simp [h1.len]) (fun a z => ?_) (fun i t v e ev => ?_) fun i j t t' l e e' a a' => ?_
      · rcases z with (z | z) | z
        · exact z.elim
        · have z' : a = p := z
          rw [z', hp]
          trivial
        · exact z.elim
      · cases i with
        | zero =>
          cases e
          cases ev
          exact ⟨rfl, .inr rfl, fun z => by rcases z with (z | z) | z; exact z; exact ncp z; exact z, hp, hc⟩
        | succ i =>
          have e2 : (ds.map Slot.im)[i]? = some t := by simpa using e
          have ev2 : ws[i]? = some v := by simpa using ev
          rw [List.getElem?_map] at e2
          cases q2 : ds[i]? with
          | none => rw [q2] at e2; cases e2
          | some d =>
            rw [q2] at e2
            cases e2
            obtain ⟨v', g1, g2⟩ := h1.get q2
            rw [ev2] at g1
            cases g1
            exact Rep.anti (fun a z => by rcases z with (z | z) | z; exact z.elim; exact z; exact z.elim) d v g2
      · have im_no : ∀ (m : Nat) (u : Slot), (ds.map Slot.im)[m]? = some u → u.addr = none := fun m u z => by
          obtain ⟨d, _, rfl⟩ := List.mem_map.mp (List.mem_of_getElem? z)
          rfl
        cases i with
        | zero =>
          cases j with
          | zero => rfl
          | succ j =>
            rw [im_no j t' (by simpa using e')] at a'
            cases a'
        | succ i =>
          rw [im_no i t (by simpa using e)] at a
          cases a
    · intro σ' H' A' δ' d v pp e s' rp
      obtain ⟨p1, p2⟩ := pp
      subst p1
      obtain ⟨v', f1, f2, fA, nc, f3, f4⟩ := s'.sl 0 _ p2
      exact q v H' (fun a o n z => e.out' a o (fun y => by rcases y with y | y; exact y; exact n y) (.inl rfl) z) f3 (Rep.anti (fun a z => ⟨z, fun y => y⟩) d v rp)
end
end K06
/-! K8: dict comprehensions. -/
namespace K06
open PySem PySem.Spec L2
variable {X Y : Cx} {CS : Addr} {sc : Scope} {N : List Str} {vs ls : List Nat} {gs : List Str}

theorem Cng.forget {δ : Sto} {ws : List Nat} : Cng δ (forget ws δ) := ⟨fun i d h => (forget_some h).1, fun i p c g h => ⟨g, (forget_some h).1⟩⟩
theorem used_swaps {kx vx : Expr} {gens : List Comprehension} {scope : Scope} {pos py : Pos} {y : Str} {l : Nat} {env : Env} (hk : env.scope.kind = .function) (hy : env.scope.names.lookup y = some .local) (hl : (py.line == pos.line) = true)
    (ha : (scope.names.any fun (n, k) => n == y && (k == .local || k == .cell)) = false) : swapsWith (.DictComp kx vx gens scope pos) (some (.Name y py)) l env = pure true := by
  have ky : env.kindOf y = some .local := hy
  have hb : env.blockKind = .function := by unfold Env.blockKind; rw [hk]; rfl
  unfold swapsWith
  simp only [hb, ky, ha, Expr.pos, hl]
  rfl
/-- y = {..} on one line, y a local: the block stores it itself -/
theorem ps_setDc {i : Nat} {y : Str} {py : Pos} {kx vx tg iter : Expr} {ifs : List Expr} {scope : Scope} {own : List (Str × Nat)} {pos spos : Pos} {wi : TI} {g : TG} {tt : TT} {tk tv : TE} (hc : X.calm = true) (hN : X.N.Nodup) (hy : X.N[i]? = some y) (hyl : X.env.scope.names.lookup y = some .local)
    (hsw : swapsWith (.DictComp kx vx [⟨tg, iter, ifs, 0⟩] scope pos) (some (.Name y py)) spos.line X.env = pure true) (hi : PI X tg iter wi) (ok : BlkOk X.N X.env.scope scope own)
    (hg : ∀ (s : Shared) (H : Hp) (C : Addr) (cl : List (Str × Addr)) (fp : List Addr), PG (X.blk s H scope (compEnvC scope cl C X.env) fp) tg g)
    (ht : ∀ (s : Shared) (H : Hp) (C : Addr) (cl : List (Str × Addr)) (fp : List Addr), PTs (X.blk s H scope (compEnvC scope cl C X.env) fp) ifs tt)
    (hk : ∀ (s : Shared) (H : Hp) (C : Addr) (cl : List (Str × Addr)) (fp : List Addr), PE (X.blk s H scope (compEnvC scope cl C X.env) fp) kx tk)
    (hv : ∀ (s : Shared) (H : Hp) (C : Addr) (cl : List (Str × Addr)) (fp : List Addr), PE (X.blk s H scope (compEnvC scope cl C X.env) fp) vx tv) (hs : ∀ x, foldedSetIterable iter X.env x = pure x) :
    PS X (.Assign [.Name y py] (.DictComp kx vx [⟨tg, iter, ifs, 0⟩] scope pos) spos) (tAsg (tDc wi g tt tk tv (own.map (·.2))) (gName i)) := by
  refine ⟨fun pins s σ H D I h => ?_⟩
  rw [exec_Assign_Name_used _ _ _ _ hsw]
  refine wpAny_bind (wpAny_standAt (wpAny_bind ?_))
  have h : tDc wi g tt tk tv (own.map (·.2)) σ H (fun x H1 => gName i x σ H1 D.nx) := h
  refine wpAny_bind (thn (dc_core (Qf := fun _ s' => SP X pins D .next s') hc hN I hi ok hg ht hk hv hs h fun Dl C s' m H' I' q hn f => ?_) fun _ s' hq => wpAny_pure (wpAny_pure hq))
  refine wpAny_assign_Name (store_ok2 (v := V.ref Dl) I' hN hy (.inl hyl) rfl (fun s2 I2 ⟨a, sb, ha⟩ => ?_) (.inr hyl))
  obtain ⟨f0, f1, f2, f3, f4, f5⟩ := f
  have neq : C ≠ a := fun e => by
    rcases ha with z | z
    · exact f1 (e.trans z)
    · exact f4 y a z e.symm
  exact ⟨m, hn.sameBut sb neq, fun h3 sb3 => ⟨_, H', I2.turned (t' := s2.toks) (fun b o hb e => (sb3.2 b hb).trans e) f0 f1 f3 f4 f5, q⟩⟩

section
variable {tg iter kx vx : Expr} {scope : Scope} {own : List (Str × Nat)} {pos spos : Pos} {δ δ1 : Sto} {ds : List D} {F : List (Int × D)}
theorem dc_read (hl : LFs ds = true) (hn : ds.length ≤ 1000) (ws : List Nat) (hFl : F.length = ds.length) (hnd : (F.map (·.1)).Nodup) (hf : LFs (F.map (·.2)) = true) (gg : TG) (tk tv : TE)
    (hs : ∀ (i : Nat) (d : D), ds[i]? = some d → ∃ us δ2 k x, (∀ j ∈ us, j ∈ ws) ∧ F[i]? = some (k, x) ∧ (∀ v σ H Q, gX CS us d (forget ws δ1) δ2 v σ H Q → gg v σ H Q) ∧ (∀ σ H Q, tE CS δ2 (.d (.int k)) δ2 σ H Q → tk σ H Q) ∧ (∀ σ H Q, tE CS δ2 (.d x) δ2 σ H Q → tv σ H Q) ∧ (forget ws δ2 = forget ws δ1))
    (σ : L2.St) (H : Hp) (Q : VK) (h : ∃ A B, SR CS A B σ H δ ∧ ∀ (Dl : Addr) kv H', H Dl = none → H' Dl = some (.dK kv) → ReKV CS H' (fun _ => False) F kv → Ext A B H A H' → SR CS A B σ H' (forget ws δ1) → Q (.ref Dl) H') : tDc (iX CS δ ds δ1) gg tYes tk tv ws σ H Q := by
  obtain ⟨A, B, s, k⟩ := h
  refine ⟨A, B, s, fun J H1 e1 s1 wk Dl hD => ?_⟩
  have hDH : H Dl = none := by
    cases q : H Dl with
    | none => rfl
    | some u => exact absurd hD (e1.there Dl (by rw [q]; simp))
  have nM : ¬ Mu A (B.with Dl) Dl := fun z => s1.tracked (.inl z) hD
  have s1w : SR CS A B (wipe σ ws) H1 (forget ws δ1) := (s1.less (forget_len δ1 ws) fun i t e => (forget_some e).1).lessσ (wipe_length σ ws) fun i t e => wipe_out (forget_some e).2
  have lft : ∀ n, LFs ((F.take n).map (·.2)) = true := fun n => LFs_all fun d hd => by
    rw [List.map_take] at hd
    obtain ⟨q, hq⟩ := List.mem_iff_getElem?.mp (List.mem_of_mem_take hd)
    exact LFs_get hf hq
  refine ⟨fun i m H' => m = ds.length - i ∧ i ≤ ds.length ∧ ∃ kv, H' Dl = some (.dK kv) ∧ ReKV CS H' (fun _ => False) (F.take i) kv ∧ Ext A B H1 A H' ∧ SR CS A (B.with Dl) (wipe σ ws) H' (forget ws δ1),
    ⟨ds.length, by simp, Nat.zero_le _, [], upd_same, ⟨rfl, rfl⟩, Ext.refl.updN hD, s1w.guard hD trivial⟩, ?_⟩
  rintro i m H' ⟨rfl, hi, kv, hDl, hr, ex, sr⟩
  by_cases hlt : i < ds.length
  · refine .inr ⟨wk.goes i A H' hlt ex, fun H3 => i + 1 ≤ ds.length ∧ ∃ kv, H3 Dl = some (.dK kv) ∧ ReKV CS H3 (fun _ => False) (F.take (i + 1)) kv ∧ Ext A B H1 A H3 ∧ SR CS A (B.with Dl) (wipe σ ws) H3 (forget ws δ1), fun H3 h3 => ⟨ds.length - (i + 1), by omega, rfl, h3.1, h3.2⟩, fun x H2 hy => ?_⟩
    obtain ⟨sm, d, hd', rp⟩ := wk.yields i A H' x H2 hlt ex hy
    obtain ⟨us, δ2, kk, xx, q0, qF, q1, q2, q3, q4⟩ := hs i d hd'
    refine q1 _ _ _ _ ⟨A, B.with Dl, sr.same sm, Rep.lf d x (LFs_get hl hd') rp, fun σ2 l2 f2 s2 => ?_⟩
    have ew : wipe σ2 ws = wipe σ ws := (wipe_same l2 q0 f2).trans (wipe_same (wipe_length σ ws) (ws := ws) (fun _ z => z) fun j hj => wipe_out hj)
    refine ⟨ew, ?_⟩
    show tk σ2 H2 _
    refine q2 _ _ _ ⟨A, B.with Dl, s2, fun y H3 e3 s3 q5 => q3 _ _ _ ⟨A, B.with Dl, s3, fun z H4 e4 s4 q6 => ?_⟩⟩
    have ey : y = .int kk := q5
    have d4 : H4 Dl = some (.dK kv) := e4.out Dl _ nM (e3.out Dl _ nM (sm _ _ hDl))
    have hr4 : ReKV CS H4 (fun _ => False) (F.take i) kv := ⟨hr.1, Reps.lf _ _ (lft i) (Reps.stay e4.stay _ _ (Reps.stay e3.stay _ _ (Reps.stay (Same.stay sm) _ _ (Reps.lf (A' := Un2 A (B.with Dl)) _ _ (lft i) hr.2))))⟩
    have kvl : kv.length = i := by
      have := congrArg List.length hr.1
      rw [List.length_map, List.length_map, List.length_take] at this
      omega
    have hno : (F.take i).lookup kk = none := by
      have hmem : ∀ (l : List (Int × D)), kk ∉ l.map (·.1) → l.lookup kk = none := fun l => by
        induction l with
        | nil => intro _; rfl
        | cons p l ih =>
          intro hp
          have n1 : ((kk == p.1) : Bool) = false := by
            have : ¬ kk = p.1 := fun z => hp (by simp [z])
            simpa using this
          rw [List.lookup_cons, n1]
          exact ih fun z => hp (by simp at z ⊢; exact .inr z)
      refine hmem _ fun z => ?_
      rw [List.map_take] at z
      obtain ⟨j, hj⟩ := List.mem_iff_getElem?.mp z
      have hji : j < i := by
        have := (List.getElem?_eq_some_iff.mp hj).1
        rw [List.length_take] at this
        omega
      rw [List.getElem?_take_of_lt hji] at hj
      have hi2 : (F.map (·.1))[i]? = some kk := by rw [List.getElem?_map, qF]; rfl
      obtain ⟨hj1, hj2⟩ := List.getElem?_eq_some_iff.mp hj
      obtain ⟨hi3, hi4⟩ := List.getElem?_eq_some_iff.mp hi2
      have := (List.getElem_inj hnd).mp (hj2.trans hi4.symm)
      omega
    have st : Stay (fun a => a = Dl) H4 (upd H4 Dl (.dK (kv ++ [(Sum.inl kk, z)]))) := stay_upd rfl (by rw [d4]; trivial)
    have eF : F.take (i + 1) = F.take i ++ [(kk, xx)] := by rw [List.take_add_one, qF]; rfl
    have lx : LF xx = true := by
      have := LFs_get (i := i) (d := xx) hf (by rw [List.getElem?_map, qF]; rfl)
      exact this
    refine ⟨kv, Sum.inl kk, ey, d4, by rw [kvl]; exact small1000 (by omega), hlt, kv ++ [(Sum.inl kk, z)], ?_, ⟨?_, ?_⟩, (((ex.trans (Same.ext sm)).trans e3.unguard).trans e4.unguard).updN hD, ?_⟩
    · rw [upd_same, putK_new _ (lookup_valV_none hr4 hno)]
    · rw [eF, List.map_append, List.map_append, hr.1]
      rfl
    · rw [putK_new _ (lookup_valV_none hr4 hno), eF, List.map_append, List.map_append]
      have lf2 : LFs ((F.take i).map (·.2) ++ [xx]) = true := by
        rw [LFs_app, lft i]
        simp [LFs, lx]
      exact Reps.lf _ _ lf2 (Reps.stay st _ _ (Reps.app (Reps.lf (A' := fun a => a = Dl) _ _ (lft i) hr4.2) (Reps.one (Rep.lf _ _ lx q6))))
    · rw [← ew, ← q4]
      exact ((s4.less (forget_len δ2 ws) fun i t e => (forget_some e).1).lessσ (wipe_length σ2 ws) fun i t e => wipe_out (forget_some e).2).updZ (.inr rfl) nM trivial
  · have e : i = ds.length := by omega
    subst e
    have eF : F.take ds.length = F := by rw [← hFl]; exact List.take_length
    rw [eF] at hr
    exact .inl ⟨wk.stops A H' ex, k Dl kv H' hDH hDl hr (e1.trans ex) (sr.unguard.lessσ (wipe_length σ ws).symm fun j t e => (wipe_out (forget_some e).2).symm)⟩
/-- what is asked of a turn -/
structure DcT (X : Cx) (CS : Addr) (N : List Str) (vs' ls' : List Nat) (gs' : List Str) (scope : Scope) (tg kx vx : Expr) (ws : List Nat) (F : List (Int × D)) (δ0 : Sto) (i : Nat) (d : D) : Prop where
  ex : ∃ us δ2 k x, (us.all fun j => ws.contains j) = true ∧ F[i]? = some (k, x) ∧ (∀ Y, Blk X scope Y → Ctx Y Y.env.scope N vs' ls' gs' → XG Y CS tg us d δ0 δ2) ∧ (∀ Y, Blk X scope Y → Ctx Y Y.env.scope N vs' ls' gs' → XE Y CS kx δ2 (.d (.int k)) δ2) ∧ (∀ Y, Blk X scope Y → Ctx Y Y.env.scope N vs' ls' gs' → XE Y CS vx δ2 (.d x) δ2) ∧ forget ws δ2 = δ0
theorem xss_setDc {rest : List Stmt} {P : Post} {nm : Str} {p' : Pos} (C : Ctx X sc N vs ls gs) (k : Nat) (hik : N[k]? = some nm) (hlk : ls.contains k = true) (vs' ls' : List Nat) (gs' : List Str) (hi : XI X CS tg iter δ ds δ1) (ok : blkC N sc scope own = true) (hbk : bkOk N vs' ls' gs' scope = true) (hl : LFs ds = true) (hn : ds.length ≤ 1000)
    (hFl : F.length = ds.length) (hnd : (F.map (·.1)).Nodup) (hf : LFs (F.map (·.2)) = true) (hs : ∀ (i : Nat) (d : D), ds[i]? = some d → DcT X CS N vs' ls' gs' scope tg kx vx (own.map (·.2)) F (forget (own.map (·.2)) δ1) i d) (cg : Cng δ δ1)
    (hlen : k < δ1.length) (h2 : ∀ l, XSs X CS rest ((forget (own.map (·.2)) δ1).set k (some (.md l F))) P) (hfs : ∀ x, foldedSetIterable iter X.env x = pure x)
    (hsw : (locB sc nm = true ∧ sc.kind = .function ∧ (p'.line == pos.line) = true ∧ (scope.names.any fun (n, k) => n == nm && (k == .local || k == .cell)) = false) ∨ swapsWith (.DictComp kx vx [⟨tg, iter, [], 0⟩] scope pos) (some (.Name nm p')) spos.line X.env = pure false) :
    XSs X CS (.Assign [.Name nm p'] (.DictComp kx vx [⟨tg, iter, [], 0⟩] scope pos) spos :: rest) δ P := by
  have hB : ∀ (s : Shared) (H : Hp) (C : Addr) (cl : List (Str × Addr)) (fp : List Addr), Blk X scope (X.blk s H scope (compEnvC scope cl C X.env) fp) := fun s H C cl fp => ⟨s, H, C, cl, fp, rfl⟩
  obtain ⟨l1, l2⟩ := C.loc k nm hlk hik
  have fin : ∀ (De : Ends) (σ : L2.St) (H : Hp), tS CS δ P De σ H → tDc (iX CS δ ds δ1) (fun v σ H Q => ∃ q : LcK, (∀ Y, Blk X scope Y → XG Y CS tg q.us q.d q.δ q.δ2) ∧ gX CS q.us q.d q.δ q.δ2 v σ H Q) tYes
      (fun σ H Q => ∃ q : Sto × Int, (∀ Y, Blk X scope Y → XE Y CS kx q.1 (.d (.int q.2)) q.1) ∧ tE CS q.1 (.d (.int q.2)) q.1 σ H Q) (fun σ H Q => ∃ q : Sto × D, (∀ Y, Blk X scope Y → XE Y CS vx q.1 (.d q.2) q.1) ∧ tE CS q.1 (.d q.2) q.1 σ H Q) (own.map (·.2)) σ H
      (fun v H1 => ∃ l : Addr, True ∧ tS CS ((forget (own.map (·.2)) δ1).set k (some (.md l F))) P De (σ.set k (some v)) H1) := by
    rintro De σ H ⟨A, B, s, kk⟩
    refine dc_read (δ1 := δ1) hl hn (own.map (·.2)) hFl hnd hf _ _ _ (fun i d hd => ?_) σ H _ ?_
    · obtain ⟨us, δ2, k, x, q0, q1, q2, q3, q4, q5⟩ := (hs i d hd).ex
      exact ⟨us, δ2, k, x, fun j hj => List.contains_iff_mem.mp (List.all_eq_true.mp q0 j hj), q1, fun v σ H Q z => ⟨⟨us, d, _, δ2⟩, fun Y hY => q2 Y hY (C.blk hY hbk), z⟩, fun σ H Q z => ⟨(δ2, k), fun Y hY => q3 Y hY (C.blk hY hbk), z⟩, fun σ H Q z => ⟨(δ2, x), fun Y hY => q4 Y hY (C.blk hY hbk), z⟩, q5⟩
    · refine ⟨A, B, s, fun Dl kv H' hD hDl hr ex sr => ⟨Dl, trivial, ?_⟩⟩
      obtain ⟨x1, x2⟩ := SR.bind (t := .md Dl F) s sr ex (cg.trans Cng.forget) hD (by rw [hDl]; trivial) (by rw [forget_len]; exact hlen) rfl ⟨rfl, .inr rfl, hf, kv, hDl, hr.1, Reps.lf _ _ hf hr.2⟩
      exact tS_step (P := P) x1 x2 kk
  have nd : X.N.Nodup := by rw [C.hN]; exact C.nd
  have hk' : X.N[k]? = some nm := by rw [C.hN]; exact hik
  have bo : BlkOk X.N X.env.scope scope own := by rw [C.hN, C.hsc]; exact blkOk_by ok
  have kx' : ∀ (s : Shared) (H : Hp) (Ca : Addr) (cl : List (Str × Addr)) (fp : List Addr), PE (X.blk s H scope (compEnvC scope cl Ca X.env) fp) kx (fun σ H Q => ∃ q : Sto × Int, (∀ Y, Blk X scope Y → XE Y CS kx q.1 (.d (.int q.2)) q.1) ∧ tE CS q.1 (.d (.int q.2)) q.1 σ H Q) := fun s H Ca cl fp => ⟨fun pins s' σ H' Q I ⟨q, h1, h2⟩ => (h1 _ (hB s H Ca cl fp)).run pins s' σ H' Q I h2⟩
  have vx' : ∀ (s : Shared) (H : Hp) (Ca : Addr) (cl : List (Str × Addr)) (fp : List Addr), PE (X.blk s H scope (compEnvC scope cl Ca X.env) fp) vx (fun σ H Q => ∃ q : Sto × D, (∀ Y, Blk X scope Y → XE Y CS vx q.1 (.d q.2) q.1) ∧ tE CS q.1 (.d q.2) q.1 σ H Q) := fun s H Ca cl fp => ⟨fun pins s' σ H' Q I ⟨q, h1, h2⟩ => (h1 _ (hB s H Ca cl fp)).run pins s' σ H' Q I h2⟩
  have gg' : ∀ (s : Shared) (H : Hp) (Ca : Addr) (cl : List (Str × Addr)) (fp : List Addr), PG (X.blk s H scope (compEnvC scope cl Ca X.env) fp) tg (fun v σ H Q => ∃ q : LcK, (∀ Y, Blk X scope Y → XG Y CS tg q.us q.d q.δ q.δ2) ∧ gX CS q.us q.d q.δ q.δ2 v σ H Q) := fun s H Ca cl fp => ⟨fun pins s' σ H' v u Q I r ⟨q, h1, h2⟩ => (h1 _ (hB s H Ca cl fp)).run pins s' σ H' v u Q I r h2⟩
  have rst : PSs X rest (fun D σ H => ∃ l : Addr, True ∧ tS CS ((forget (own.map (·.2)) δ1).set k (some (.md l F))) P D σ H) := pss_ex (ι := Addr) (p := fun _ => True) fun l _ => h2 l
  rcases hsw with ⟨h1, h3, h4, h5⟩ | hsw
  · have hloc : X.env.scope.names.lookup nm = some .local := by
      rw [C.hsc]
      unfold locB at h1
      cases q : sc.names.lookup nm with
      | none => rw [q] at h1; simp at h1
      | some k => rw [q] at h1; cases k <;> simp_all
    exact pss_weak (pss_cons (ps_setDc (i := k) C.calm nd hk' hloc (used_swaps (by rw [C.hsc]; exact h3) hloc h4 h5) hi bo gg' (fun _ _ _ _ _ => pts_nil) kx' vx' hfs) rst) fun D σ H h => fin D σ H h
  · exact pss_weak (pss_cons (ps_set (i := k) nd hk' l1 (pe_dc C.calm nd hi bo gg' (fun _ _ _ _ _ => pts_nil) kx' vx' hfs) hsw l2) rst) fun D σ H h => fin D σ H h
end
end K06
/-! K9: enumerate of a tuple. -/
namespace K06E
open PySem PySem.Spec PyProof.Rows L2
open PySem.AutoSeq1 (wpAny_loadPart')

abbrev tIter (l : Addr) : Obj := { cls := .type "tuple_iterator", data := .fields #[.ref l, .int 0 0] }
abbrev enObj (it : Addr) : Obj := { cls := .type "enumerate", data := .fields #[.none, .bool false, .ref it, rawInt 0, .none, .none] }
theorem enum_newT (l : Addr) (items : Array Value) (n : Nat) (dct : Option Addr) (sl : Array (Option Value)) :
    Meets (Builtin.«enumerate.__new__» ⟨[.type "enumerate", .ref l], []⟩) (fun _ R s => s.heap.get? l = some { cls := .type "tuple", dict := dct, data := .seq items n, slots := sl } ∧
      R (.ok (.ret (.ref (s.heap.push (tIter l)).objs.size))) { s with heap := (s.heap.push (tIter l)).push (enObj s.heap.objs.size) }) :=
  .of_wp fun prog w A R s h => by
    obtain ⟨hp, g, d, tk, os⟩ := s
    obtain ⟨hl, h⟩ := h
    have hsub := sub_enumerate
    have hT : Heap.IsTuple (Shared.heap ⟨hp, g, d, tk, os⟩) l items := ⟨_, hl, rfl, n, rfl⟩
    wp_walk using wpAny_loadPart' hl
    refine wpAny_stack_any fun st => wpAny_pure ?_
    split
    · rename_i c _ _ _ _ _
      cases (c == Value.type "enumerate") <;> (wp_walk using wpAny_loadPart' hl, wpAny_pyIter_tuple hT; exact ⟨_, rfl, h⟩)
    · wp_walk using wpAny_loadPart' hl, wpAny_pyIter_tuple hT
      exact ⟨_, rfl, h⟩
section
variable {prog : Program} {w : World} {A : Around} {E : Value → Shared → Prop} {s : Shared}
theorem call_enumT {l : Addr} {items : Array Value} {Q : Value → Shared → Prop} (hT : s.heap.IsTuple l items)
    (h : ∀ h', IsEnum h' (s.heap.objs.size + 1) s.heap.objs.size 0 .none → h'.IsTupleIter s.heap.objs.size l 0 → (∀ b o, s.heap.get? b = some o → h'.get? b = some o) → Q (.ref (s.heap.objs.size + 1)) { s with heap := h' }) :
    wpAny (model prog w) A (call (.type "enumerate") [.ref l]) Q E s := by
  obtain ⟨⟨c, dct, dt, sl⟩, hl, hc, n, hd⟩ := hT
  replace hc : c = .type "tuple" := hc
  replace hd : dt = .seq items n := hd
  subst hc hd
  refine callType_new F.called_enumerate (by decide) (F.typeCall_enumerate_1 _) (F.newCall_enumerate_1 _) (fun obj => F.args_object_init_2 obj _) F.entry_enumerate_new (enum_newT l items n dct sl) ⟨hl, ?_⟩
  have hz : (s.heap.push (tIter l)).objs.size = s.heap.objs.size + 1 := Heap.size_push ..
  show _ ∧ _
  rw [hz]
  have he : IsEnum ((s.heap.push (tIter l)).push (enObj s.heap.objs.size)) (s.heap.objs.size + 1) s.heap.objs.size 0 .none := by
    have := Heap.get?_push_size (s.heap.push (tIter l)) (o := enObj s.heap.objs.size) rfl
    rw [hz] at this
    exact this
  exact ⟨⟨_, he, rfl⟩, h _ he ⟨_, Heap.get?_push_of_some _ (Heap.get?_push_size _ rfl), rfl, rfl⟩ fun b o x => Heap.get?_push_of_some _ (Heap.get?_push_of_some _ x)⟩
end
/-- the tuple at a, each item in a new pair -/
def ItE (K : PySem.W.Frag) (a : Addr) : It :=
  ⟨fun i H => ∃ (xs : List V) (x : V), SqT K H a xs ∧ xs[i]? = some x, fun i H v H' => ∃ T x, v = .ref T ∧ H T = none ∧ H' = upd H T (.tup [.int (i : Nat), x]) ∧ ∀ xs, SqT K H a xs → xs[i]? = some x, fun i H => ∃ xs : List V, SqT K H a xs ∧ xs.length = i⟩
theorem two_of {b e it : Addr} (hb : b ∈ [e, it]) : b = e ∨ b = it := by simpa using hb
theorem turnE {P : Program} {w : World} {K : PySem.W.Frag} {elts : List Expr} {kk : Nat} {tpos : Pos} (a e it : Addr) :
    Turn P w K (.Tuple elts kk tpos) (ItE K a) [e, it] e (fun i h => (∃ old, IsEnum h e it ((i : Nat) : Int) old) ∧ h.IsTupleIter it a i ∧ e ≠ it ∧ a ≠ it ∧ e ≠ a) where
  mem := by simp
  obj := fun i h st b hb => by
    obtain ⟨⟨old, he⟩, ⟨o, ho, hc, hd⟩, _⟩ := st
    rcases two_of hb with z | z
    · rw [z]
      exact ⟨_, he, fun v q => nomatch q⟩
    · rw [z]
      exact ⟨o, ho, fun v q => by rw [hd] at q; cases q⟩
  keep := fun i h h' ⟨⟨old, he⟩, hi, hne, hr⟩ k => ⟨⟨old, k e (by simp) _ he⟩, hi.at fun o q => k it (by simp) o q, hne, hr⟩
  item := by
    intro X hP hw hK hc i pins s σ H E I hf st hg
    subst hP hw hK
    obtain ⟨⟨old, he⟩, hit, hne, hai, hea⟩ := st
    obtain ⟨xs, x, hq, hx⟩ := hg
    obtain ⟨its, rv, p, hz⟩ := I.tuple hq
    obtain ⟨u, hu, ru⟩ := rv.get hx
    have hel : e < s.heap.objs.size := Heap.lt_size he
    have hil : it < s.heap.objs.size := by obtain ⟨_, q, _⟩ := hit; exact Heap.lt_size q
    have il : i < its.toArray.size := by
      rw [List.size_toArray]
      exact (List.getElem?_eq_some_iff.mp hu).1
    refine wpAny_pyNext_enum_itemD (Draws.tuple (A := X.A.in1) (I.ok.hd hc) it a hai its.toArray) he ⟨hit, p⟩ il hne (by simp [hne, hea]) fun y h' tk hy ho hst hT hsz hk => ?_
    have ey : y = u := by
      have h2 : its.toArray[i]? = some u := by simpa using hu
      rw [h2] at hy
      exact (Option.some.inj hy).symm
    subst ey
    refine ⟨_, rfl, wpAny_letOwnedTupleGo_enum (s := { s with heap := h', toks := tk + 1 }) ho fun h'' he' sb => ?_⟩
    have hT2 : h''.get? s.heap.objs.size = some { cls := .type "tuple", data := .seq #[.int i tk, y] } := (sb.2 _ (Nat.ne_of_gt hel)).trans hT
    have new : ObjOk X.prog X.w (upd H s.heap.objs.size (.tup [.int (i : Nat), x])) h'' s.heap.objs.size (.tup [.int (i : Nat), x]) :=
      ⟨by show 2 ≤ sizeLine; decide, [.int i tk, y], .cons ⟨_, rfl⟩ (.cons ru .nil), ⟨_, hT2, rfl, _, rfl⟩⟩
    have I1 : Inv X pins σ (upd H s.heap.objs.size (.tup [.int (i : Nat), x])) { s with heap := h'', toks := tk + 1 } :=
      I.turnedNew (ch := [e, it]) (fun b ob hb q => (sb.2 b (fun z => hb (by simp [z]))).trans (hk b ob (fun z => hb (by simp [z])) (fun z => hb (by simp [z])) q)) hf (Nat.le_refl _) new
    refine ⟨.ref s.heap.objs.size, _, I1, rfl, ⟨_, x, rfl, I.hok.fresh (Nat.le_refl _), rfl, fun ys hy => by rw [I.tuple_inj hy hq]; exact hx⟩, ⟨⟨y, ?_⟩, hst.1.at fun o q => (sb.2 it (Ne.symm hne)).trans q, hne, hai, hea⟩, fun b hb => ?_⟩
    · rw [show ((i + 1 : Nat) : Int) = (i : Int) + 1 by omega]
      exact he'
    · have hb' : b < s.heap.objs.size := by
        rcases two_of hb with z | z <;> rw [z] <;> assumption
      rw [upd_ne (Nat.ne_of_lt hb')]
      exact (hf b hb).1
  done := by
    intro X hP hw hK hc i pins s σ H E I hf st hg
    subst hP hw hK
    obtain ⟨⟨old, he⟩, hit, hne, hai, hea⟩ := st
    obtain ⟨xs, hq, hx⟩ := hg
    obtain ⟨its, rv, p, hz⟩ := I.tuple hq
    obtain ⟨f0, f1, f2, f3, f4, f5⟩ := hf it (by simp)
    have hn : i = its.toArray.size := by
      rw [List.size_toArray, ← rv.length]
      exact hx.symm
    rw [hn] at hit
    exact wpAny_pyNext_enum_endD (Draws.tuple (A := X.A.in1) (I.ok.hd hc) it a hai its.toArray) he ⟨hit, p⟩ fun h' eb => ⟨rfl, I.turned (t' := s.toks) (fun b o hb q => eb b o hb q) f0 f1 f3 f4 f5⟩
  self := fun A i s Q E ⟨⟨_, he⟩, _⟩ h => wpAny_pyIter_enum he h
def iEnT (K : PySem.W.Frag) (ta : TA) : TI := fun σ H R => ta σ H fun vs H1 => ∃ a xs, vs = [.ref a] ∧ SqT K H1 a xs ∧ R (ItE K a) H1
theorem pi_enumT {X : Cx} {e : Expr} {ta : TA} {p pos tpos : Pos} {elts : List Expr} {kk : Nat} (hg : Gl X "enumerate") (hm : X.mg "enumerate" = none) (ha : PA X [e] ta) (hs : starEach [e] X.env = [(false, eval e X.env)]) : PI X (.Tuple elts kk tpos) (.Call (.Name "enumerate" p) [e] [] pos) (iEnT X.K ta) := by
  refine ⟨fun pins s σ H R I h => ?_⟩
  refine Call_ (ld_blt I hg hm boot_enumerate (PyProof.Rows.callWith_type1 (thn (ha.run pos pins s σ H _ I h) fun us s1 ⟨vs, H1, I1, r1, a, xs, ex, hq, q⟩ => ?_) hs rfl))
  subst ex
  cases r1 with
  | cons r rr =>
    cases rr
    cases r
    obtain ⟨its, rv, pt, hz⟩ := I1.tuple hq
    refine call_enumT pt fun h' he hit hk => wpAny_pyIter_enum he ?_
    have I2 : Inv X pins σ H1 { s1 with heap := h' } := I1.kept (t' := s1.toks) hk
    have al : a < s1.heap.objs.size := pt.lt
    refine ⟨s1.heap.objs.size + 1, [s1.heap.objs.size + 1, s1.heap.objs.size], _, _, H1, rfl, I2, turnE a (s1.heap.objs.size + 1) s1.heap.objs.size, ⟨⟨.none, he⟩, hit, Nat.succ_ne_self _, Nat.ne_of_lt al, Nat.ne_of_gt (Nat.lt_succ_of_lt al)⟩, fun b hb => ?_, q⟩
    have hle : s1.heap.objs.size ≤ b := by
      rcases two_of hb with z | z <;> rw [z]
      · exact Nat.le_succ _
      · exact Nat.le_refl _
    exact I1.fpOk hle (I1.hok.fresh hle)
end K06E
namespace K06
open PySem PySem.Spec L2
section
variable {X : Cx} {CS : Addr} {sc : Scope} {N : List Str} {vs ls : List Nat} {gs : List Str} {a : Expr} {pos p2 p3 : Pos} {δ δ1 : Sto} {r : Res} {ds : List D}
theorem walkD_enumT {K : PySem.W.Frag} {A : AP1} {B : Bo} {H1 : Hp} {p : Addr} {us : List V} (h1 : H1 p = some (.tup us)) (h2 : Reps CS H1 (Un2 A B) ds us) : WalkD CS A B (K06E.ItE K p) (enumD ds) H1 where
  goes := fun i A1 H2 hi ex => by
    rw [enumD_len] at hi
    exact ⟨us, us[i]'(by rw [h2.len]; exact hi), SqT.of (ex.tup p _ h1), by simp [show i < us.length by rw [h2.len]; exact hi]⟩
  stops := fun A1 H2 ex => ⟨us, SqT.of (ex.tup p _ h1), by rw [h2.len, enumD_len]⟩
  yields := fun i A1 H2 x H3 hi ex y => by
    rw [enumD_len] at hi
    obtain ⟨T, w, rfl, hT, rfl, y2⟩ := y
    obtain ⟨v, g1, g2⟩ := h2.get (i := i) (d := ds[i]) (by simp [hi])
    have e1 := y2 us (SqT.of (ex.tup p _ h1))
    rw [g1] at e1
    cases e1
    obtain ⟨sm, rp⟩ := pair_new (n := (i : Nat)) hT (Rep.ext ex _ _ g2)
    exact ⟨sm, _, enumD_get (by simp [hi]), rp⟩
theorem xi_et {elts : List Expr} {kk : Nat} (C : Ctx X sc N vs ls gs) (k : Nat) (hk : gs[k]? = some "enumerate") (ha : XE X CS a δ r δ1) (hc : TupC r ds) (hs : starEach [a] X.env = [(false, eval a X.env)] := by rfl) (hs2 : starEach [a] X.env = (false, eval a X.env) :: starEach [] X.env := by rfl) :
    XI X CS (.Tuple elts kk p3) (.Call (.Name "enumerate" p2) [a] [] pos) δ (enumD ds) δ1 :=
  pi_weak (K06E.pi_enumT (C.gl k _ hk).1 C.glb.enumerate (xa_cons ha xa_nil hs2) hs) fun σ H R ⟨A, B, s, kk⟩ => ⟨A, B, s, fun ws H1 e1 s1 q1 => by
    obtain ⟨v, ew, q2⟩ := RRs.one q1
    obtain ⟨p, us, ev, h1, h2⟩ := hc.at' (fun a z => s.tracked z) q2
    exact ⟨p, us, by rw [ew, ev], SqT.of h1, kk _ H1 e1 s1 (walkD_enumT h1 h2)⟩⟩
end
end K06
/-! K10: set(xs) of a list of ints, sorted. -/
namespace K06E
open PySem PySem.Spec PyProof.Rows L2
variable {P : Program} {w : World} {A : Around} {E : Value → Shared → Prop} {s : Shared}
/-- the empty set as it is made -/
abbrev sObj (w : World) : Obj := { cls := .type "set", dict := none, data := .set #[] 0 (.fresh 0 0 (!w.params.followText "set-order")) }
abbrev lIter (l : Addr) : Obj := { cls := .type "list_iterator", data := .fields #[.ref l, .int 0 0] }
set_option maxHeartbeats 3200000 in
theorem call_set_lst {l : Addr} {items : Array Value} (ns : List Int) {Q : Value → Shared → Prop} (hh : A.handled = none) (hl : s.heap.IsList l items) (hit : IntsAre items.toList ns) (hb : ns.length + 1 < scanBound)
    (h : ∀ (h' : Heap) (tk c : Nat), SetR w h' s.heap.objs.size (fun j => decide (j ∈ ns)) c → c ≤ ns.length → (∀ b o, s.heap.get? b = some o → h'.get? b = some o) → Q (.ref s.heap.objs.size) { s with heap := h', toks := tk }) : wpAny (model P w) A (call (.type "set") [.ref l]) Q E s := by
  have hisz : items.size = ns.length := (Array.length_toList).symm.trans (IntsAre.length hit)
  obtain ⟨c, tl, hmro⟩ := F.called_set.mro
  have hmade := F.called_set.made
  have hsub := F.called_set.sub
  refine wpAny_call (codeAny_of_tree ?_)
  show wpAny _ _ (callAny (.type "set") _) _ _ _
  refine wpAny_pure ⟨Code.quiet_builtin _ (by decide +kernel), codeAny_builtin F.entry_type_call ?_⟩
  rw [Around.under_plain (weight_type_call_type "set" [.ref l] []) rfl]
  have h1 := F.called_set.notType
  have h2 := F.called_set.canCreate
  have hct := F.typeCall_set_1 (.ref l)
  repeat (any_goals (first | assumption | wp_step))
  refine codeAny_mono (code_set_led1 (.ref l) (E := E) (Q₁ := fun obj t => obj = .ref s.heap.objs.size ∧ t = { s with heap := s.heap.push (sObj w) }) ⟨rfl, rfl⟩) fun r t hr => ?_
  cases r with
  | error e => exact hr
  | ok fl =>
    cases fl with
    | ret obj =>
      obtain ⟨rfl, rfl⟩ := hr
      have hS : (s.heap.push (sObj w)).get? s.heap.objs.size = some (sObj w) := Heap.get?_push_size _ rfl
      have hT : Shared.TypeIs { s with heap := s.heap.push (sObj w) } (.ref s.heap.objs.size) "set" := ⟨_, hS, rfl⟩
      have hli := F.called_set.init.lookup
      have hbi := F.called_set.init.bind (.ref s.heap.objs.size)
      repeat (any_goals (first | assumption | wp_step))
      refine codeAny_mono (codeAny_call_builtin (R := wants (fun r t => r = .none ∧ ∃ h' tk c, t = { s with heap := h', toks := tk } ∧ SetR w h' s.heap.objs.size (fun j => decide (j ∈ ns)) c ∧ c ≤ ns.length ∧ (∀ b o, s.heap.get? b = some o → h'.get? b = some o)) E) F.called_set.init.plain F.entry_set_init (check_set_init_1 hT ?_)) fun r₂ t₂ hr₂ => ?_
      · obtain ⟨⟨ocls, odict, odata, oslots⟩, hol, hcl, nl, hdl⟩ := hl
        simp only at hcl hdl
        subst hcl; subst hdl
        have hol2 : (s.heap.push (sObj w)).get? l = some { cls := .type "list", dict := odict, data := .seq items nl, slots := oslots } := Heap.get?_push_of_some _ hol
        have hsls := F.sub_list_set
        have hslf := F.sub_list_frozenset
        have hne : (Value.type "list" == Value.type "dict") = false := by decide
        have hl1 : (s.heap.push (sObj w)).IsList l items := ⟨_, hol2, rfl, nl, rfl⟩
        unfold Builtin.«set.__init__» noKeywords Builtin.Frozenset.updateFrom
        generalize hPI : pyIter = PI
        wp_walk
        subst hPI
        refine wpAny_pyIter_list hl1 ?_
        refine wpAny_bind (wpAny_runValue ?_)
        have hlS : l < s.heap.objs.size := Heap.lt_size hol
        have hz1 : (s.heap.push (sObj w)).objs.size = s.heap.objs.size + 1 := Heap.size_push ..
        have hneI : l ≠ (s.heap.push (sObj w)).objs.size := by
          rw [hz1]
          exact Nat.ne_of_lt (Nat.lt_succ_of_lt hlS)
        have hSf : s.heap.objs.size ∉ [(s.heap.push (sObj w)).objs.size, l] := by
          rw [hz1]
          intro z
          rcases two_of z with q | q
          · exact absurd q (Nat.ne_of_lt (Nat.lt_succ_self _))
          · exact absurd q (Nat.ne_of_gt hlS)
        have hval : ∀ (i : Nat) (v : Value), items[i]? = some v → ∃ k t, ns[i]? = some k ∧ v = .int k t := fun i v hv => by
          have hi : i < ns.length := by
            rw [← hisz]
            exact (Array.getElem?_eq_some_iff.mp hv).1
          obtain ⟨t, e⟩ := PyProof.Rows.IntsAre.int_at hit i v (by rw [Array.getElem?_toList]; exact hv)
          refine ⟨ns[i], t, List.getElem?_eq_getElem hi, ?_⟩
          rw [e, List.getD_eq_getElem?_getD, List.getElem?_eq_getElem hi]
          rfl
        refine set_update_ints ((Walks.list (A := A.in1.in1.in1) (by simp [hh]) _ l hneI items).toS) s.heap.objs.size hSf ns hisz hb hval (items.size - 0) 0 _ (by omega) (Nat.zero_le _) ⟨⟨_, Heap.get?_push_size _ rfl, rfl, rfl⟩, (hl1.push _)⟩ ?hS0 ?hR
        case hS0 =>
          have hget : ((s.heap.push (sObj w)).push (lIter l)).get? s.heap.objs.size = some (sObj w) := Heap.get?_push_of_some _ hS
          exact ⟨0, Nat.le_refl 0, setR_new_at hget⟩
        case hR =>
          intro s' c' hm hc' hS'
          obtain ⟨h', g2, d', tk', os'⟩ := s'
          have eg : g2 = s.gens := hm.gens
          have ed : d' = s.drawn := hm.drawn
          have eo : os' = s.os := hm.os
          subst eg; subst ed; subst eo
          show wpAny _ _ _ _ _ _
          refine wpAny_pure ?_
          show wpAny _ _ (ret Value.none) _ _ _
          rw [hisz] at hc'
          refine wpAny_pure ⟨rfl, h', tk', c', rfl, hS', hc', fun b o e => ?_⟩
          have hb0 : b < s.heap.objs.size := Heap.lt_size e
          refine hm.heap b o (fun z => ?_) (Heap.get?_push_of_some _ (Heap.get?_push_of_some _ e))
          rcases two_of z with q | q
          · exact absurd q (Nat.ne_of_lt hb0)
          · rw [hz1] at q
            exact absurd q (Nat.ne_of_lt (Nat.lt_succ_of_lt hb0))
      · cases r₂ with
        | error e => exact hr₂
        | ok fl₂ =>
          cases fl₂ with
          | ret r =>
            obtain ⟨rfl, h', tk, c', rfl, hS', hc', hk'⟩ := hr₂
            repeat (any_goals (first | assumption | wp_step))
            exact h _ _ _ hS' hc' hk'
          | _ => exact hr₂.elim
    | _ => exact hr.elim
theorem sub_len : ∀ {l m : List Int}, l.Nodup → (∀ k ∈ l, k ∈ m) → l.length ≤ m.length
  | [], m, _, _ => Nat.zero_le _
  | a :: l, m, nd, h => by
    obtain ⟨n1, n2⟩ := List.nodup_cons.mp nd
    have ha := h a (by simp)
    have := sub_len (m := m.erase a) n2 fun k hk => by
      have ne : k ≠ a := fun z => n1 (z ▸ hk)
      exact (List.mem_erase_of_ne ne).mpr (h k (by simp [hk]))
    rw [List.length_erase_of_mem ha] at this
    have := List.length_pos_of_mem ha
    rw [List.length_cons]
    omega
theorem setR_card {w : World} {h : Heap} {a : Addr} {ns : List Int} {c : Nat} (R : SetR w h a (fun j => decide (j ∈ ns)) c) (ms : List Int) (hm : ∀ k ∈ ns, k ∈ ms) : c ≤ ms.length := by
  obtain ⟨o, es, ep, t, _, _, _, _, nd, hk, _, _, e, _⟩ := R
  have := sub_len (m := ms) nd fun k hk' => hm k (of_decide_eq_true ((hk k).mpr hk'))
  rw [List.length_map, Array.length_toList] at this
  omega
/-- set(xs), xs a list of ints -/
def rSetLI (K : PySem.W.Frag) (w : World) : List V → Hp → VK → Prop := fun vs H Q => ∃ (a : Addr) (ns : List Int), vs = [.ref a] ∧ SqL K H a (ns.map V.int) ∧ ns.length + 1 < scanBound ∧ ∀ p c, H p = none → (∀ ms : List Int, (∀ k ∈ ns, k ∈ ms) → c ≤ ms.length) → Q (.ref p) (upd H p (SetO w p (fun j => decide (j ∈ ns)) c))
theorem cr_setLI {X : Cx} (hc : X.calm = true) : CallR X (.type "set") (rSetLI X.K X.w) := by
  intro pins s σ H vs us Q I r h
  obtain ⟨a, ns, rfl, hs, hb, q⟩ := h
  obtain ⟨its, rv, hl, hz⟩ := I.list hs
  rw [Vals.ref1 r]
  refine call_set_lst ns (I.ok.hd hc) hl.isList (by simpa using Vals.ints rv) hb fun h' tk c hS hc' hk => ?_
  have hn : H s.heap.objs.size = none := I.hok.fresh (Nat.le_refl _)
  exact ⟨.ref s.heap.objs.size, _, I.laid (t' := tk) hk (Nat.le_refl _) (setO_new hS), rfl, q _ c hn (fun ms hm => setR_card hS ms hm)⟩
end K06E
namespace K06
open PySem PySem.Spec L2
section
variable {X : Cx} {CS : Addr} {sc : Scope} {N : List Str} {vs ls : List Nat} {gs : List Str} {a : Expr} {pos p2 p3 p4 : Pos} {δ δ1 : Sto} {r : Res}
theorem up_unique : ∀ {as bs : List Int}, as.Pairwise (· < ·) → bs.Pairwise (· < ·) → (∀ k, k ∈ as ↔ k ∈ bs) → as = bs
  | [], [], _, _, _ => rfl
  | [], b :: bs, _, _, h => by have := (h b).mpr (by simp); simp at this
  | a :: as, [], _, _, h => by have := (h a).mp (by simp); simp at this
  | a :: as, b :: bs, ha, hb, h => by
    obtain ⟨ha1, ha2⟩ := List.pairwise_cons.mp ha
    obtain ⟨hb1, hb2⟩ := List.pairwise_cons.mp hb
    have e : a = b := by
      have h1 : a ∈ b :: bs := (h a).mp (by simp)
      have h2 : b ∈ a :: as := (h b).mpr (by simp)
      rcases List.mem_cons.mp h1 with z | z
      · exact z
      · rcases List.mem_cons.mp h2 with y | y
        · exact y.symm
        · have := hb1 a z
          have := ha1 b y
          omega
    subst e
    congr 1
    refine up_unique ha2 hb2 fun k => ?_
    constructor
    · intro hk
      rcases List.mem_cons.mp ((h k).mp (by simp [hk])) with z | z
      · have := ha1 k hk
        omega
      · exact z
    · intro hk
      rcases List.mem_cons.mp ((h k).mpr (by simp [hk])) with z | z
      · have := hb1 k hk
        omega
      · exact z
/-- sorted(set(xs)) -/
theorem xe_sset {ns ms : List Int} (C : Ctx X sc N vs ls gs) (k k2 : Nat) (hk : gs[k]? = some "sorted") (hk2 : gs[k2]? = some "set") (ha : XE X CS a δ r δ1) (hc : LstC δ1 r (ns.map D.int)) (hz : ns.length ≤ 2000) (h64 : ms.length < 64) (h1 : ms.Pairwise (· < ·)) (h2 : ∀ k, k ∈ ms ↔ k ∈ ns)
    (hs : starEach [a] X.env = (false, eval a X.env) :: starEach [] X.env := by rfl) (hs3 : starEach [.Call (.Name "set" p3) [a] [] p4] X.env = (false, eval (.Call (.Name "set" p3) [a] [] p4) X.env) :: starEach [] X.env := by rfl) : XE X CS (.Call (.Name "sorted" p2) [.Call (.Name "set" p3) [a] [] p4] [] pos) δ (.n (.lst (ms.map D.int))) δ1 := by
  obtain ⟨g1, g2⟩ := C.gl k _ hk
  obtain ⟨g3, g4⟩ := C.gl k2 _ hk2
  refine pe_weak (pe_callB (cr_sortedSet C.calm) g1 C.glb.sorted (by decide +kernel) (pa_cons (pe_callTy (K06E.cr_setLI C.calm) g3 C.glb.set (by decide +kernel) (xa_cons ha xa_nil hs) (by decide) g4 hs rfl) pa_nil hs3) (by decide) g2 hs3 rfl) fun σ H Q ⟨A, B, s, kk⟩ => ⟨A, B, s, fun ws H1 e1 s1 q => ?_⟩
  obtain ⟨v, e, q1⟩ := RRs.one q
  obtain ⟨p, us, e2, f1, f2⟩ := hc.at s s1 q1
  have e3 := f2.ints
  subst e3
  refine ⟨p, ns, by rw [e, e2], SqL.of f1, Nat.lt_of_le_of_lt (Nat.succ_le_succ hz) (by decide), fun t c ht hct => ?_⟩
  refine ⟨t, _, c, rfl, upd_same, Nat.lt_of_le_of_lt (hct ms fun k hk => (h2 k).mpr hk) h64, fun ns' n z1 z2 z3 hn => ?_⟩
  have e4 : ns' = ms := up_unique z1 h1 fun k => by rw [z2 k, h2 k]; simp
  subst e4
  have sm1 : Same H1 (upd H1 t (SetO X.w t (fun j => decide (j ∈ ns)) c)) := same_new ht
  have sm := sm1.trans (same_new hn (o := .lst (ns'.map V.int)))
  exact kk _ _ (e1.trans (Same.ext sm)) (s1.same sm) (RR.back (e1.trans (Same.ext sm1)) (rr_newL (A' := Un2 A B) hn (LFs_ints _) (Reps.of_ints _)))
end
end K06
/-! KT: the text's defs, their names. -/
namespace K06
open PySem PySem.Spec L2
def topS (i : Nat) : Stmt := PySem.Challenge.pw_ringclaims_k06_whole_keepers_of_others_w.main.body.getD i (.Pass ⟨0, 0, 0, 0⟩)
abbrev s_is_integer : Stmt := topS 7
abbrev N_is_integer : List Str := ["thing"]
abbrev G_is_integer : List Str := ["isinstance", "int", "bool"]
abbrev V_is_integer : List Nat := [0]
theorem sc_is_integer : FnScope N_is_integer ["thing"] (defScope s_is_integer) := ⟨rfl, rfl, rfl, by decide +kernel, rfl, by decide +kernel, by decide +kernel⟩
theorem ok_is_integer : scOk N_is_integer V_is_integer V_is_integer G_is_integer (defScope s_is_integer) = true := by decide +kernel
abbrev s_is_within : Stmt := topS 8
abbrev N_is_within : List Str := ["thing", "least", "most"]
abbrev G_is_within : List Str := ["is_integer"]
abbrev V_is_within : List Nat := [0, 1, 2]
theorem sc_is_within : FnScope N_is_within ["thing", "least", "most"] (defScope s_is_within) := ⟨rfl, rfl, rfl, by decide +kernel, rfl, by decide +kernel, by decide +kernel⟩
theorem ok_is_within : scOk N_is_within V_is_within V_is_within G_is_within (defScope s_is_within) = true := by decide +kernel
abbrev s_is_number : Stmt := topS 9
abbrev N_is_number : List Str := ["thing", "most"]
abbrev G_is_number : List Str := ["is_within"]
abbrev V_is_number : List Nat := [0, 1]
theorem sc_is_number : FnScope N_is_number ["thing", "most"] (defScope s_is_number) := ⟨rfl, rfl, rfl, by decide +kernel, rfl, by decide +kernel, by decide +kernel⟩
theorem ok_is_number : scOk N_is_number V_is_number V_is_number G_is_number (defScope s_is_number) = true := by decide +kernel
abbrev s_is_triple : Stmt := topS 10
abbrev N_is_triple : List Str := ["thing"]
abbrev G_is_triple : List Str := ["isinstance", "tuple", "len"]
abbrev V_is_triple : List Nat := [0]
theorem sc_is_triple : FnScope N_is_triple ["thing"] (defScope s_is_triple) := ⟨rfl, rfl, rfl, by decide +kernel, rfl, by decide +kernel, by decide +kernel⟩
theorem ok_is_triple : scOk N_is_triple V_is_triple V_is_triple G_is_triple (defScope s_is_triple) = true := by decide +kernel
abbrev s_is_listed : Stmt := topS 11
abbrev N_is_listed : List Str := ["thing"]
abbrev G_is_listed : List Str := ["isinstance", "list", "tuple"]
abbrev V_is_listed : List Nat := [0]
theorem sc_is_listed : FnScope N_is_listed ["thing"] (defScope s_is_listed) := ⟨rfl, rfl, rfl, by decide +kernel, rfl, by decide +kernel, by decide +kernel⟩
theorem ok_is_listed : scOk N_is_listed V_is_listed V_is_listed G_is_listed (defScope s_is_listed) = true := by decide +kernel
abbrev s_is_lot : Stmt := topS 12
abbrev N_is_lot : List Str := ["thing", "many", "last", "number"]
abbrev G_is_lot : List Str := ["isinstance", "tuple", "is_within"]
abbrev V_is_lot : List Nat := [0, 1, 2, 3]
theorem sc_is_lot : FnScope N_is_lot ["thing", "many"] (defScope s_is_lot) := ⟨rfl, rfl, rfl, by decide +kernel, rfl, by decide +kernel, by decide +kernel⟩
theorem ok_is_lot : scOk N_is_lot V_is_lot V_is_lot G_is_lot (defScope s_is_lot) = true := by decide +kernel
abbrev s_is_first_behind : Stmt := topS 17
abbrev N_is_first_behind : List Str := ["head", "last", "thing"]
abbrev G_is_first_behind : List Str := ["is_within"]
abbrev V_is_first_behind : List Nat := [0, 1, 2]
theorem sc_is_first_behind : FnScope N_is_first_behind ["head", "last", "thing"] (defScope s_is_first_behind) := ⟨rfl, rfl, rfl, by decide +kernel, rfl, by decide +kernel, by decide +kernel⟩
theorem ok_is_first_behind : scOk N_is_first_behind V_is_first_behind V_is_first_behind G_is_first_behind (defScope s_is_first_behind) = true := by decide +kernel
abbrev s_is_waits : Stmt := topS 18
abbrev N_is_waits : List Str := ["many", "deed", "thing"]
abbrev G_is_waits : List Str := ["is_lot"]
abbrev V_is_waits : List Nat := [0, 1, 2]
theorem sc_is_waits : FnScope N_is_waits ["many", "deed", "thing"] (defScope s_is_waits) := ⟨rfl, rfl, rfl, by decide +kernel, rfl, by decide +kernel, by decide +kernel⟩
theorem ok_is_waits : scOk N_is_waits V_is_waits V_is_waits G_is_waits (defScope s_is_waits) = true := by decide +kernel
abbrev s_first_wrong : Stmt := topS 19
abbrev N_first_wrong : List Str := ["head", "deeds", "last", "deed", "thing"]
abbrev G_first_wrong : List Str := ["enumerate", "is_triple", "is_first_behind", "is_number", "MOST_CELLS", "is_waits", "len"]
abbrev V_first_wrong : List Nat := [0, 1, 2, 3, 4]
theorem sc_first_wrong : FnScope N_first_wrong ["head", "deeds"] (defScope s_first_wrong) := ⟨rfl, rfl, rfl, by decide +kernel, rfl, by decide +kernel, by decide +kernel⟩
theorem ok_first_wrong : scOk N_first_wrong V_first_wrong V_first_wrong G_first_wrong (defScope s_first_wrong) = true := by decide +kernel
abbrev s_waited_for : Stmt := topS 20
abbrev N_waited_for : List Str := ["waits", "lot", "found", "waiting", "other", "deed"]
abbrev G_waited_for : List Str := ["list", "len", "tuple", "sorted"]
abbrev V_waited_for : List Nat := [0, 1, 2, 3, 4]
theorem sc_waited_for : FnScope N_waited_for ["waits", "lot"] (defScope s_waited_for) := ⟨rfl, rfl, rfl, by decide +kernel, rfl, by decide +kernel, by decide +kernel⟩
theorem ok_waited_for : scOk N_waited_for V_waited_for V_waited_for G_waited_for (defScope s_waited_for) = true := by decide +kernel
abbrev s_first_in_ring : Stmt := topS 21
abbrev N_first_in_ring : List Str := ["waits", "deed", "some"]
abbrev G_first_in_ring : List Str := ["enumerate", "waited_for"]
abbrev V_first_in_ring : List Nat := [0, 1, 2]
theorem sc_first_in_ring : FnScope N_first_in_ring ["waits"] (defScope s_first_in_ring) := ⟨rfl, rfl, rfl, by decide +kernel, rfl, by decide +kernel, by decide +kernel⟩
theorem ok_first_in_ring : scOk N_first_in_ring V_first_in_ring V_first_in_ring G_first_in_ring (defScope s_first_in_ring) = true := by decide +kernel
abbrev s_is_too_far : Stmt := topS 22
abbrev N_is_too_far : List Str := ["cells", "head", "deeds"]
abbrev G_is_too_far : List Str := ["len"]
abbrev V_is_too_far : List Nat := [0, 1, 2]
theorem sc_is_too_far : FnScope N_is_too_far ["cells", "head", "deeds"] (defScope s_is_too_far) := ⟨rfl, rfl, rfl, by decide +kernel, rfl, by decide +kernel, by decide +kernel⟩
theorem ok_is_too_far : scOk N_is_too_far V_is_too_far V_is_too_far G_is_too_far (defScope s_is_too_far) = true := by decide +kernel
abbrev s_Standing_init : Stmt := inClass (topS 23) 0
abbrev N_Standing_init : List Str := ["self", "cells", "head", "deeds", "wrong", "first", "need", "waits"]
abbrev G_Standing_init : List Str := ["is_within", "MOST_CELLS", "BadStanding", "is_number", "MOST_HEAD", "isinstance", "tuple", "len", "MOST_DEEDS", "first_wrong", "is_too_far", "first_in_ring"]
abbrev V_Standing_init : List Nat := [0, 1, 2, 3, 4]
theorem sc_Standing_init : FnScope N_Standing_init ["self", "cells", "head", "deeds"] (defScope s_Standing_init) := ⟨rfl, rfl, rfl, by decide +kernel, rfl, by decide +kernel, by decide +kernel⟩
theorem ok_Standing_init : scOk N_Standing_init V_Standing_init V_Standing_init G_Standing_init (defScope s_Standing_init) = true := by decide +kernel
abbrev s_raw_standing : Stmt := topS 24
abbrev N_raw_standing : List Str := ["cells", "head", "deeds", "found"]
abbrev G_raw_standing : List Str := ["Standing", "tuple"]
abbrev V_raw_standing : List Nat := [0, 1, 2, 3]
theorem sc_raw_standing : FnScope N_raw_standing ["cells", "head", "deeds"] (defScope s_raw_standing) := ⟨rfl, rfl, rfl, by decide +kernel, rfl, by decide +kernel, by decide +kernel⟩
theorem ok_raw_standing : scOk N_raw_standing V_raw_standing V_raw_standing G_raw_standing (defScope s_raw_standing) = true := by decide +kernel
abbrev s_waits_of : Stmt := topS 25
abbrev N_waits_of : List Str := ["standing", "first", "need", "waits"]
abbrev G_waits_of : List Str := []
abbrev V_waits_of : List Nat := [0]
theorem sc_waits_of : FnScope N_waits_of ["standing"] (defScope s_waits_of) := ⟨rfl, rfl, rfl, by decide +kernel, rfl, by decide +kernel, by decide +kernel⟩
theorem ok_waits_of : scOk N_waits_of V_waits_of V_waits_of G_waits_of (defScope s_waits_of) = true := by decide +kernel
abbrev s_loads_of : Stmt := topS 26
abbrev N_loads_of : List Str := ["standing", "waits", "known", "total", "found", "deed", "first", "need", "some", "other"]
abbrev G_loads_of : List Str := ["waits_of", "enumerate", "waited_for", "tuple"]
abbrev V_loads_of : List Nat := [0, 1, 2, 3, 4, 5, 6, 7, 8, 9]
theorem sc_loads_of : FnScope N_loads_of ["standing"] (defScope s_loads_of) := ⟨rfl, rfl, rfl, by decide +kernel, rfl, by decide +kernel, by decide +kernel⟩
theorem ok_loads_of : scOk N_loads_of V_loads_of V_loads_of G_loads_of (defScope s_loads_of) = true := by decide +kernel
abbrev s_too_heavy : Stmt := topS 27
abbrev N_too_heavy : List Str := ["standing", "deed", "load"]
abbrev G_too_heavy : List Str := ["enumerate", "loads_of"]
abbrev V_too_heavy : List Nat := [0]
theorem sc_too_heavy : FnScope N_too_heavy ["standing"] (defScope s_too_heavy) := ⟨rfl, rfl, rfl, by decide +kernel, rfl, by decide +kernel, by decide +kernel⟩
theorem ok_too_heavy : scOk N_too_heavy V_too_heavy V_too_heavy G_too_heavy (defScope s_too_heavy) = true := by decide +kernel
abbrev s_easy : Stmt := topS 28
abbrev N_easy : List Str := ["standing"]
abbrev G_easy : List Str := ["len", "too_heavy"]
abbrev V_easy : List Nat := [0]
theorem sc_easy : FnScope N_easy ["standing"] (defScope s_easy) := ⟨rfl, rfl, rfl, by decide +kernel, rfl, by decide +kernel, by decide +kernel⟩
theorem ok_easy : scOk N_easy V_easy V_easy G_easy (defScope s_easy) = true := by decide +kernel
abbrev s_is_deed : Stmt := topS 34
abbrev N_is_deed : List Str := ["standing", "thing"]
abbrev G_is_deed : List Str := ["is_within", "len"]
abbrev V_is_deed : List Nat := [0, 1]
theorem sc_is_deed : FnScope N_is_deed ["standing", "thing"] (defScope s_is_deed) := ⟨rfl, rfl, rfl, by decide +kernel, rfl, by decide +kernel, by decide +kernel⟩
theorem ok_is_deed : scOk N_is_deed V_is_deed V_is_deed G_is_deed (defScope s_is_deed) = true := by decide +kernel
abbrev s_is_row_wish : Stmt := topS 35
abbrev N_is_row_wish : List Str := ["standing", "thing"]
abbrev G_is_row_wish : List Str := ["is_deed", "is_within", "MOST_CELLS", "is_number"]
abbrev V_is_row_wish : List Nat := [0, 1]
theorem sc_is_row_wish : FnScope N_is_row_wish ["standing", "thing"] (defScope s_is_row_wish) := ⟨rfl, rfl, rfl, by decide +kernel, rfl, by decide +kernel, by decide +kernel⟩
theorem ok_is_row_wish : scOk N_is_row_wish V_is_row_wish V_is_row_wish G_is_row_wish (defScope s_is_row_wish) = true := by decide +kernel
abbrev s_is_open_wish : Stmt := topS 36
abbrev N_is_open_wish : List Str := ["standing", "thing"]
abbrev G_is_open_wish : List Str := ["len", "MOST_DEEDS", "is_number", "MOST_CELLS", "is_lot"]
abbrev V_is_open_wish : List Nat := [0, 1]
theorem sc_is_open_wish : FnScope N_is_open_wish ["standing", "thing"] (defScope s_is_open_wish) := ⟨rfl, rfl, rfl, by decide +kernel, rfl, by decide +kernel, by decide +kernel⟩
theorem ok_is_open_wish : scOk N_is_open_wish V_is_open_wish V_is_open_wish G_is_open_wish (defScope s_is_open_wish) = true := by decide +kernel
abbrev s_is_wait_wish : Stmt := topS 37
abbrev N_is_wait_wish : List Str := ["standing", "thing", "deed", "other", "waits"]
abbrev G_is_wait_wish : List Str := ["is_deed", "waits_of", "waited_for"]
abbrev V_is_wait_wish : List Nat := [0, 1, 2, 3, 4]
theorem sc_is_wait_wish : FnScope N_is_wait_wish ["standing", "thing"] (defScope s_is_wait_wish) := ⟨rfl, rfl, rfl, by decide +kernel, rfl, by decide +kernel, by decide +kernel⟩
theorem ok_is_wait_wish : scOk N_is_wait_wish V_is_wait_wish V_is_wait_wish G_is_wait_wish (defScope s_is_wait_wish) = true := by decide +kernel
abbrev s_is_wish : Stmt := topS 38
abbrev N_is_wish : List Str := ["standing", "thing", "judge"]
abbrev G_is_wish : List Str := ["isinstance", "tuple", "len", "str", "SIZES", "ROW", "OPEN", "WAIT", "is_row_wish", "is_open_wish", "is_wait_wish"]
abbrev V_is_wish : List Nat := [0, 1, 2]
theorem sc_is_wish : FnScope N_is_wish ["standing", "thing"] (defScope s_is_wish) := ⟨rfl, rfl, rfl, by decide +kernel, rfl, by decide +kernel, by decide +kernel⟩
theorem ok_is_wish : scOk N_is_wish V_is_wish V_is_wish G_is_wish (defScope s_is_wish) = true := by decide +kernel
abbrev s_renumbered : Stmt := topS 39
abbrev N_renumbered : List Str := ["deeds", "order", "names", "found", "deed", "first", "need", "waits", "at", "other"]
abbrev G_renumbered : List Str := ["enumerate", "tuple", "sorted"]
abbrev V_renumbered : List Nat := [0, 1, 2, 3, 4, 5, 6, 7]
theorem sc_renumbered : FnScope N_renumbered ["deeds", "order"] (defScope s_renumbered) := ⟨rfl, rfl, rfl, by decide +kernel, rfl, by decide +kernel, by decide +kernel⟩
theorem ok_renumbered : scOk N_renumbered V_renumbered V_renumbered G_renumbered (defScope s_renumbered) = true := by decide +kernel
abbrev s_written_many : Stmt := topS 40
abbrev N_written_many : List Str := ["deeds", "first", "need", "waits"]
abbrev G_written_many : List Str := ["len"]
abbrev V_written_many : List Nat := [0]
theorem sc_written_many : FnScope N_written_many ["deeds"] (defScope s_written_many) := ⟨rfl, rfl, rfl, by decide +kernel, rfl, by decide +kernel, by decide +kernel⟩
theorem ok_written_many : scOk N_written_many V_written_many V_written_many G_written_many (defScope s_written_many) = true := by decide +kernel
abbrev s_behind_row : Stmt := topS 41
abbrev N_behind_row : List Str := ["standing", "deed", "cells", "need", "first", "elder", "waits", "deeds", "order"]
abbrev G_behind_row : List Str := ["list", "range", "len", "written_many", "raw_standing", "renumbered"]
abbrev V_behind_row : List Nat := [0, 1, 2, 3, 4, 5, 6, 7, 8]
theorem sc_behind_row : FnScope N_behind_row ["standing", "deed", "cells", "need"] (defScope s_behind_row) := ⟨rfl, rfl, rfl, by decide +kernel, rfl, by decide +kernel, by decide +kernel⟩
theorem ok_behind_row : scOk N_behind_row V_behind_row V_behind_row G_behind_row (defScope s_behind_row) = true := by decide +kernel
abbrev s_behind_open : Stmt := topS 42
abbrev N_behind_open : List Str := ["standing", "cells", "need", "waits", "deeds", "order"]
abbrev G_behind_open : List Str := ["list", "range", "len", "written_many", "raw_standing", "renumbered"]
abbrev V_behind_open : List Nat := [0, 1, 2, 3, 4, 5]
theorem sc_behind_open : FnScope N_behind_open ["standing", "cells", "need", "waits"] (defScope s_behind_open) := ⟨rfl, rfl, rfl, by decide +kernel, rfl, by decide +kernel, by decide +kernel⟩
theorem ok_behind_open : scOk N_behind_open V_behind_open V_behind_open G_behind_open (defScope s_behind_open) = true := by decide +kernel
abbrev s_behind_wait : Stmt := topS 43
abbrev N_behind_wait : List Str := ["standing", "deed", "other", "deeds", "first", "need", "waits"]
abbrev G_behind_wait : List Str := ["list", "tuple", "sorted", "raw_standing"]
abbrev V_behind_wait : List Nat := [0, 1, 2, 3, 4, 5, 6]
theorem sc_behind_wait : FnScope N_behind_wait ["standing", "deed", "other"] (defScope s_behind_wait) := ⟨rfl, rfl, rfl, by decide +kernel, rfl, by decide +kernel, by decide +kernel⟩
theorem ok_behind_wait : scOk N_behind_wait V_behind_wait V_behind_wait G_behind_wait (defScope s_behind_wait) = true := by decide +kernel
abbrev s_behind_of : Stmt := topS 44
abbrev N_behind_of : List Str := ["standing", "wish"]
abbrev G_behind_of : List Str := ["ROW", "behind_row", "OPEN", "behind_open", "behind_wait"]
abbrev V_behind_of : List Nat := [0, 1]
theorem sc_behind_of : FnScope N_behind_of ["standing", "wish"] (defScope s_behind_of) := ⟨rfl, rfl, rfl, by decide +kernel, rfl, by decide +kernel, by decide +kernel⟩
theorem ok_behind_of : scOk N_behind_of V_behind_of V_behind_of G_behind_of (defScope s_behind_of) = true := by decide +kernel
abbrev s_check_easy : Stmt := topS 49
abbrev N_check_easy : List Str := ["standing"]
abbrev G_check_easy : List Str := ["easy", "NotEasy"]
abbrev V_check_easy : List Nat := [0]
theorem sc_check_easy : FnScope N_check_easy ["standing"] (defScope s_check_easy) := ⟨rfl, rfl, rfl, by decide +kernel, rfl, by decide +kernel, by decide +kernel⟩
theorem ok_check_easy : scOk N_check_easy V_check_easy V_check_easy G_check_easy (defScope s_check_easy) = true := by decide +kernel
abbrev s_let_by : Stmt := topS 50
abbrev N_let_by : List Str := ["standing", "wish"]
abbrev G_let_by : List Str := ["easy", "behind_of"]
abbrev V_let_by : List Nat := [0, 1]
theorem sc_let_by : FnScope N_let_by ["standing", "wish"] (defScope s_let_by) := ⟨rfl, rfl, rfl, by decide +kernel, rfl, by decide +kernel, by decide +kernel⟩
theorem ok_let_by : scOk N_let_by V_let_by V_let_by G_let_by (defScope s_let_by) = true := by decide +kernel
abbrev s_watched : Stmt := topS 51
abbrev N_watched : List Str := ["keeper", "standing", "wishes", "found", "here", "wish", "flag", "due"]
abbrev G_watched : List Str := ["check_easy", "is_listed", "NoWish", "is_wish", "isinstance", "bool", "NoKeeper", "let_by", "SAME", "SHY", "FREE", "behind_of"]
abbrev V_watched : List Nat := [0, 1, 2, 3, 4, 5, 6, 7]
theorem sc_watched : FnScope N_watched ["keeper", "standing", "wishes"] (defScope s_watched) := ⟨rfl, rfl, rfl, by decide +kernel, rfl, by decide +kernel, by decide +kernel⟩
theorem ok_watched : scOk N_watched V_watched V_watched G_watched (defScope s_watched) = true := by decide +kernel
abbrev s_going_order : Stmt := topS 55
abbrev N_going_order : List Str := ["standing", "waits", "found", "gone", "deed", "waiting", "here", "left", "other"]
abbrev G_going_order : List Str := ["waits_of", "range", "len"]
abbrev V_going_order : List Nat := [0, 1, 2, 3, 4, 5, 6, 7]
theorem sc_going_order : FnScope N_going_order ["standing"] (defScope s_going_order) := ⟨rfl, rfl, rfl, by decide +kernel, rfl, by decide +kernel, by decide +kernel⟩
theorem ok_going_order : scOk N_going_order V_going_order V_going_order G_going_order (defScope s_going_order) = true := by decide +kernel
abbrev s_course : Stmt := topS 56
abbrev N_course : List Str := ["standing", "found", "deed", "need"]
abbrev G_course : List Str := ["easy", "going_order", "WRITE", "GO", "tuple"]
abbrev V_course : List Nat := [0, 1, 2, 3]
theorem sc_course : FnScope N_course ["standing"] (defScope s_course) := ⟨rfl, rfl, rfl, by decide +kernel, rfl, by decide +kernel, by decide +kernel⟩
theorem ok_course : scOk N_course V_course V_course G_course (defScope s_course) = true := by decide +kernel
abbrev s_L_hand : Stmt := topS 58
abbrev N_L_hand : List Str := ["_law_script", "_law_cells", "_law_cell"]
abbrev G_L_hand : List Str := ["len"]
abbrev V_L_hand : List Nat := [0, 1]
theorem sc_L_hand : FnScope N_L_hand ["_law_script"] (defScope s_L_hand) := ⟨rfl, rfl, rfl, by decide +kernel, rfl, by decide +kernel, by decide +kernel⟩
theorem ok_L_hand : scOk N_L_hand V_L_hand V_L_hand G_L_hand (defScope s_L_hand) = true := by decide +kernel
abbrev s_L_draw : Stmt := topS 59
abbrev N_L_draw : List Str := ["_law_hand_here", "_law_many", "_law_cell", "_law_digit", "_law_number"]
abbrev G_L_draw : List Str := ["len", "int"]
abbrev V_L_draw : List Nat := [0, 1, 2, 3, 4]
theorem sc_L_draw : FnScope N_L_draw ["_law_hand_here", "_law_many"] (defScope s_L_draw) := ⟨rfl, rfl, rfl, by decide +kernel, rfl, by decide +kernel, by decide +kernel⟩
theorem ok_L_draw : scOk N_L_draw V_L_draw V_L_draw G_L_draw (defScope s_L_draw) = true := by decide +kernel
abbrev s_L_closure : Stmt := topS 60
abbrev N_L_closure : List Str := ["_law_deeds_here", "_law_some", "_law_found", "_law_turn", "_law_more", "_law_deed", "_law_many"]
abbrev G_L_closure : List Str := ["sorted", "set", "range", "len", "list", "tuple"]
abbrev V_L_closure : List Nat := [0, 1, 2, 3, 4, 5, 6]
theorem sc_L_closure : FnScope N_L_closure ["_law_deeds_here", "_law_some"] (defScope s_L_closure) := ⟨rfl, rfl, rfl, by decide +kernel, rfl, by decide +kernel, by decide +kernel⟩
theorem ok_L_closure : scOk N_L_closure V_L_closure V_L_closure G_L_closure (defScope s_L_closure) = true := by decide +kernel
abbrev s_L_claim : Stmt := topS 61
abbrev N_L_claim : List Str := ["_law_deeds_here", "_law_deed"]
abbrev G_L_claim : List Str := ["_law_closure", "list", "range"]
abbrev V_L_claim : List Nat := [0, 1]
theorem sc_L_claim : FnScope N_L_claim ["_law_deeds_here", "_law_deed"] (defScope s_L_claim) := ⟨rfl, rfl, rfl, by decide +kernel, rfl, by decide +kernel, by decide +kernel⟩
theorem ok_L_claim : scOk N_L_claim V_L_claim V_L_claim G_L_claim (defScope s_L_claim) = true := by decide +kernel
abbrev s_L_load : Stmt := topS 62
abbrev N_L_load : List Str := ["_law_head", "_law_deeds_here", "_law_deed", "_law_used_here", "_law_other"]
abbrev G_L_load : List Str := ["sum", "_law_claim"]
abbrev V_L_load : List Nat := [0, 1, 2, 3]
theorem sc_L_load : FnScope N_L_load ["_law_head", "_law_deeds_here", "_law_deed"] (defScope s_L_load) := ⟨rfl, rfl, rfl, by decide +kernel, rfl, by decide +kernel, by decide +kernel⟩
theorem ok_L_load : scOk N_L_load V_L_load V_L_load G_L_load (defScope s_L_load) = true := by decide +kernel
abbrev s_L_loads : Stmt := topS 63
abbrev N_L_loads : List Str := ["_law_head", "_law_deeds_here", "_law_deed"]
abbrev G_L_loads : List Str := ["tuple", "range", "len"]
abbrev V_L_loads : List Nat := [0, 1]
theorem sc_L_loads : FnScope N_L_loads ["_law_head", "_law_deeds_here"] (defScope s_L_loads) := ⟨rfl, rfl, rfl, by decide +kernel, rfl, by decide +kernel, by decide +kernel⟩
theorem ok_L_loads : scOk N_L_loads V_L_loads V_L_loads G_L_loads (defScope s_L_loads) = true := by decide +kernel
abbrev s_L_waits : Stmt := topS 64
abbrev N_L_waits : List Str := ["_law_hand_here", "_law_many", "_law_share", "_law_left", "_law_order", "_law_found", "_law_at", "_law_deed", "_law_turn", "_law_other"]
abbrev G_L_waits : List Str := ["list", "range", "enumerate", "tuple", "sorted"]
abbrev V_L_waits : List Nat := [0, 1, 2, 3, 4, 5, 6, 7]
theorem sc_L_waits : FnScope N_L_waits ["_law_hand_here", "_law_many", "_law_share"] (defScope s_L_waits) := ⟨rfl, rfl, rfl, by decide +kernel, rfl, by decide +kernel, by decide +kernel⟩
theorem ok_L_waits : scOk N_L_waits V_L_waits V_L_waits G_L_waits (defScope s_L_waits) = true := by decide +kernel
abbrev s_L_deeds : Stmt := topS 65
abbrev N_L_deeds : List Str := ["_law_hand_here", "_law_many", "_law_most", "_law_share", "_law_begun", "_law_head", "_law_firsts", "_law_deed", "_law_waits_here", "_law_needs"]
abbrev G_L_deeds : List Str := ["_law_draw", "range", "_law_waits", "tuple"]
abbrev V_L_deeds : List Nat := [0, 1, 2, 3, 4, 5, 6, 7, 8, 9]
theorem sc_L_deeds : FnScope N_L_deeds ["_law_hand_here", "_law_many", "_law_most", "_law_share"] (defScope s_L_deeds) := ⟨rfl, rfl, rfl, by decide +kernel, rfl, by decide +kernel, by decide +kernel⟩
theorem ok_L_deeds : scOk N_L_deeds V_L_deeds V_L_deeds G_L_deeds (defScope s_L_deeds) = true := by decide +kernel
abbrev s_L_parts : Stmt := topS 66
abbrev N_L_parts : List Str := ["_law_hand_here", "_law_many", "_law_most", "_law_share", "_law_head", "_law_deeds_here", "_law_cells"]
abbrev G_L_parts : List Str := ["_law_deeds", "max", "_law_used", "list", "_law_loads", "_law_draw"]
abbrev V_L_parts : List Nat := [0, 1, 2, 3, 4, 5, 6]
theorem sc_L_parts : FnScope N_L_parts ["_law_hand_here", "_law_many", "_law_most", "_law_share"] (defScope s_L_parts) := ⟨rfl, rfl, rfl, by decide +kernel, rfl, by decide +kernel, by decide +kernel⟩
theorem ok_L_parts : scOk N_L_parts V_L_parts V_L_parts G_L_parts (defScope s_L_parts) = true := by decide +kernel
abbrev s_L_used : Stmt := topS 67
abbrev N_L_used : List Str := ["_law_head", "_law_deeds_here", "_law_firsts", "_law_deed"]
abbrev G_L_used : List Str := ["len", "min"]
abbrev V_L_used : List Nat := [0, 1, 2]
theorem sc_L_used : FnScope N_L_used ["_law_head", "_law_deeds_here"] (defScope s_L_used) := ⟨rfl, rfl, rfl, by decide +kernel, rfl, by decide +kernel, by decide +kernel⟩
theorem ok_L_used : scOk N_L_used V_L_used V_L_used G_L_used (defScope s_L_used) = true := by decide +kernel
abbrev s_L_moves : Stmt := topS 68
abbrev N_L_moves : List Str := ["_law_cells", "_law_waits_here", "_law_state", "_law_head", "_law_deeds_here", "_law_found", "_law_at", "_law_here", "_law_later", "_law_some", "_law_firsts", "_law_one", "_law_other"]
abbrev G_L_moves : List Str := ["enumerate", "min", "all"]
abbrev V_L_moves : List Nat := [0, 1, 2, 3, 4, 5, 6, 7, 8, 9, 10]
theorem sc_L_moves : FnScope N_L_moves ["_law_cells", "_law_waits_here", "_law_state"] (defScope s_L_moves) := ⟨rfl, rfl, rfl, by decide +kernel, rfl, by decide +kernel, by decide +kernel⟩
theorem ok_L_moves : scOk N_L_moves V_L_moves V_L_moves G_L_moves (defScope s_L_moves) = true := by decide +kernel
abbrev s_L_can : Stmt := topS 69
abbrev N_L_can : List Str := ["_law_parts_here", "_law_cells", "_law_head", "_law_deeds_here", "_law_waits_here", "_law_first", "_law_known", "_law_waiting", "_law_state", "_law_later", "_law_deed", "_law_here"]
abbrev G_L_can : List Str := ["_law_used", "tuple", "len", "all", "_law_moves"]
abbrev V_L_can : List Nat := [0, 1, 2, 3, 4, 5, 6, 7, 8, 9]
theorem sc_L_can : FnScope N_L_can ["_law_parts_here"] (defScope s_L_can) := ⟨rfl, rfl, rfl, by decide +kernel, rfl, by decide +kernel, by decide +kernel⟩
theorem ok_L_can : scOk N_L_can V_L_can V_L_can G_L_can (defScope s_L_can) = true := by decide +kernel
abbrev s_L_is_course : Stmt := topS 70
abbrev N_L_is_course : List Str := ["_law_parts_here", "_law_thing", "_law_cells", "_law_head", "_law_deeds_here", "_law_state", "_law_step_here", "_law_deed", "_law_here"]
abbrev G_L_is_course : List Str := ["tuple", "isinstance", "_law_used", "_law_step", "all"]
abbrev V_L_is_course : List Nat := [0, 1, 2, 3, 4, 5, 6]
theorem sc_L_is_course : FnScope N_L_is_course ["_law_parts_here", "_law_thing"] (defScope s_L_is_course) := ⟨rfl, rfl, rfl, by decide +kernel, rfl, by decide +kernel, by decide +kernel⟩
theorem ok_L_is_course : scOk N_L_is_course V_L_is_course V_L_is_course G_L_is_course (defScope s_L_is_course) = true := by decide +kernel
abbrev s_L_is_whole : Stmt := topS 71
abbrev N_L_is_whole : List Str := ["_law_thing", "_law_least", "_law_most"]
abbrev G_L_is_whole : List Str := ["isinstance", "int", "bool"]
abbrev V_L_is_whole : List Nat := [0, 1, 2]
theorem sc_L_is_whole : FnScope N_L_is_whole ["_law_thing", "_law_least", "_law_most"] (defScope s_L_is_whole) := ⟨rfl, rfl, rfl, by decide +kernel, rfl, by decide +kernel, by decide +kernel⟩
theorem ok_L_is_whole : scOk N_L_is_whole V_L_is_whole V_L_is_whole G_L_is_whole (defScope s_L_is_whole) = true := by decide +kernel
abbrev s_L_step : Stmt := topS 72
abbrev N_L_step : List Str := ["_law_cells", "_law_deeds_here", "_law_state", "_law_step_here", "_law_head", "_law_here", "_law_one", "_law_later", "_law_firsts", "_law_other", "_law_part"]
abbrev G_L_step : List Str := ["isinstance", "tuple", "len", "_law_is_whole", "str", "all", "min"]
abbrev V_L_step : List Nat := [0, 1, 2, 3, 4, 5, 6, 7, 8]
theorem sc_L_step : FnScope N_L_step ["_law_cells", "_law_deeds_here", "_law_state", "_law_step_here"] (defScope s_L_step) := ⟨rfl, rfl, rfl, by decide +kernel, rfl, by decide +kernel, by decide +kernel⟩
theorem ok_L_step : scOk N_L_step V_L_step V_L_step G_L_step (defScope s_L_step) = true := by decide +kernel
abbrev s_L_numbered : Stmt := topS 73
abbrev N_L_numbered : List Str := ["_law_deeds_here", "_law_order", "_law_found", "_law_deed", "_law_first", "_law_need", "_law_waits_here", "_law_other"]
abbrev G_L_numbered : List Str := ["tuple", "sorted"]
abbrev V_L_numbered : List Nat := [0, 1, 2, 3, 4, 5, 6]
theorem sc_L_numbered : FnScope N_L_numbered ["_law_deeds_here", "_law_order"] (defScope s_L_numbered) := ⟨rfl, rfl, rfl, by decide +kernel, rfl, by decide +kernel, by decide +kernel⟩
theorem ok_L_numbered : scOk N_L_numbered V_L_numbered V_L_numbered G_L_numbered (defScope s_L_numbered) = true := by decide +kernel
abbrev s_L_aged : Stmt := topS 74
abbrev N_L_aged : List Str := ["_law_deeds_here", "_law_begun", "_law_deed", "_law_first"]
abbrev G_L_aged : List Str := ["sorted", "range", "len"]
abbrev V_L_aged : List Nat := [0, 1]
theorem sc_L_aged : FnScope N_L_aged ["_law_deeds_here"] (defScope s_L_aged) := ⟨rfl, rfl, rfl, by decide +kernel, rfl, by decide +kernel, by decide +kernel⟩
theorem ok_L_aged : scOk N_L_aged V_L_aged V_L_aged G_L_aged (defScope s_L_aged) = true := by decide +kernel
abbrev s_L_behind : Stmt := topS 75
abbrev N_L_behind : List Str := ["_law_parts_here", "_law_wish_here", "_law_cells", "_law_head", "_law_deeds_here", "_law_some", "_law_more", "_law_first", "_law_need", "_law_waits_here"]
abbrev G_L_behind : List Str := ["list", "tuple", "sorted", "_law_numbered", "_law_aged"]
abbrev V_L_behind : List Nat := [0, 1, 2, 3, 4, 5, 6, 7, 8, 9]
theorem sc_L_behind : FnScope N_L_behind ["_law_parts_here", "_law_wish_here"] (defScope s_L_behind) := ⟨rfl, rfl, rfl, by decide +kernel, rfl, by decide +kernel, by decide +kernel⟩
theorem ok_L_behind : scOk N_L_behind V_L_behind V_L_behind G_L_behind (defScope s_L_behind) = true := by decide +kernel
abbrev s_L_fine : Stmt := topS 76
abbrev N_L_fine : List Str := ["_law_parts_here", "_law_load_here"]
abbrev G_L_fine : List Str := ["all", "_law_loads"]
abbrev V_L_fine : List Nat := [0]
theorem sc_L_fine : FnScope N_L_fine ["_law_parts_here"] (defScope s_L_fine) := ⟨rfl, rfl, rfl, by decide +kernel, rfl, by decide +kernel, by decide +kernel⟩
theorem ok_L_fine : scOk N_L_fine V_L_fine V_L_fine G_L_fine (defScope s_L_fine) = true := by decide +kernel
abbrev s_L_wish : Stmt := topS 77
abbrev N_L_wish : List Str := ["_law_hand_here", "_law_parts_here", "_law_most", "_law_waits_here", "_law_cells", "_law_head", "_law_deeds_here", "_law_many", "_law_kind", "_law_some", "_law_deed", "_law_fit", "_law_row", "_law_need", "_law_other"]
abbrev G_L_wish : List Str := ["len", "_law_draw", "tuple", "range", "min", "max"]
abbrev V_L_wish : List Nat := [0, 1, 2, 3, 4, 5, 6, 7, 8, 9, 10, 11, 12, 13]
theorem sc_L_wish : FnScope N_L_wish ["_law_hand_here", "_law_parts_here", "_law_most", "_law_waits_here"] (defScope s_L_wish) := ⟨rfl, rfl, rfl, by decide +kernel, rfl, by decide +kernel, by decide +kernel⟩
theorem ok_L_wish : scOk N_L_wish V_L_wish V_L_wish G_L_wish (defScope s_L_wish) = true := by decide +kernel
abbrev s_L_lets : Stmt := topS 78
abbrev N_L_lets : List Str := ["_law_kind", "_law_parts_here", "_law_wish_here", "_law_later", "_law_cells", "_law_head", "_law_deeds_here", "_law_bare", "_law_load_here", "_law_deed", "_law_first", "_law_need", "_law_waits_here"]
abbrev G_L_lets : List Str := ["_law_behind", "all", "_law_loads", "_law_used", "sum", "tuple"]
abbrev V_L_lets : List Nat := [0, 1, 2, 3, 4, 5, 6, 7]
theorem sc_L_lets : FnScope N_L_lets ["_law_kind", "_law_parts_here", "_law_wish_here"] (defScope s_L_lets) := ⟨rfl, rfl, rfl, by decide +kernel, rfl, by decide +kernel, by decide +kernel⟩
theorem ok_L_lets : scOk N_L_lets V_L_lets V_L_lets G_L_lets (defScope s_L_lets) = true := by decide +kernel
abbrev s_L_led : Stmt := topS 79
abbrev N_L_led : List Str := ["_law_hand_here", "_law_kind", "_law_parts_here", "_law_waits_here", "_law_wishes", "_law_found", "_law_turn", "_law_wish_here", "_law_flag", "_law_due"]
abbrev G_L_led : List Str := ["range", "_law_draw", "_law_wish", "_law_lets", "_law_fine", "_law_behind"]
abbrev V_L_led : List Nat := [0, 1, 2, 3, 4, 5, 6, 7, 8, 9]
theorem sc_L_led : FnScope N_L_led ["_law_hand_here", "_law_kind", "_law_parts_here", "_law_waits_here"] (defScope s_L_led) := ⟨rfl, rfl, rfl, by decide +kernel, rfl, by decide +kernel, by decide +kernel⟩
theorem ok_L_led : scOk N_L_led V_L_led V_L_led G_L_led (defScope s_L_led) = true := by decide +kernel
abbrev s_L_by_hand : Stmt := topS 80
abbrev N_L_by_hand : List Str := ["_law_standing", "_law_wishes", "_law_told"]
abbrev G_L_by_hand : List Str := ["Standing", "watched", "_law_can"]
abbrev V_L_by_hand : List Nat := [0, 1, 2]
theorem sc_L_by_hand : FnScope N_L_by_hand [] (defScope s_L_by_hand) := ⟨rfl, rfl, rfl, by decide +kernel, rfl, by decide +kernel, by decide +kernel⟩
theorem ok_L_by_hand : scOk N_L_by_hand V_L_by_hand V_L_by_hand G_L_by_hand (defScope s_L_by_hand) = true := by decide +kernel
abbrev s_law : Stmt := topS 81
abbrev N_law : List Str := ["_law_script", "_law_hand_here", "_law_turn", "_law_parts_here", "_law_standing", "_law_kind", "_law_wishes", "_law_due", "_law_later", "_law_told", "_law_deed"]
abbrev G_law : List Str := ["_law_hand", "range", "_law_parts", "_law_draw", "_law_fine", "max", "_law_loads", "Standing", "_law_led", "watched", "isinstance", "list", "tuple", "_law_is_course", "course", "len", "sum", "_law_can", "_law_by_hand"]
abbrev V_law : List Nat := [0, 1, 2, 3, 4, 5, 6, 7, 8, 9]
theorem sc_law : FnScope N_law ["_law_script"] (defScope s_law) := ⟨rfl, rfl, rfl, by decide +kernel, rfl, by decide +kernel, by decide +kernel⟩
theorem ok_law : scOk N_law V_law V_law G_law (defScope s_law) = true := by decide +kernel
end K06
/-! M1: deeds, waits, who is reached; plain Lean. -/
namespace K06
structure Deed where
  first : Option Int
  need : Int
  waits : List Nat
  deriving DecidableEq

/-- the deeds of a lot and all for whom any of them waits, however far -/
inductive Reach (ws : List (List Nat)) (lot : List Nat) : Nat → Prop
  | base {j : Nat} : j ∈ lot → Reach ws lot j
  | step {i j : Nat} {l : List Nat} : Reach ws lot i → ws[i]? = some l → j ∈ l → Reach ws lot j
/-- waits are deeds -/
def WfW (ws : List (List Nat)) : Prop := ∀ (i : Nat) (l : List Nat), ws[i]? = some l → ∀ j ∈ l, j < ws.length
theorem Reach.lt {ws : List (List Nat)} {lot : List Nat} (hw : WfW ws) (hl : ∀ x ∈ lot, x < ws.length) {j : Nat} (h : Reach ws lot j) : j < ws.length := by
  induction h with
  | base h => exact hl _ h
  | step _ e m _ => exact hw _ _ e _ m
theorem Reach.mono {ws : List (List Nat)} {lot lot' : List Nat} (h : ∀ x ∈ lot, Reach ws lot' x) {j : Nat} (r : Reach ws lot j) : Reach ws lot' j := by
  induction r with
  | base m => exact h _ m
  | step _ e m ih => exact .step ih e m
open Classical in
noncomputable def clo (ws : List (List Nat)) (lot : List Nat) : List Nat := (List.range ws.length).filter fun j => decide (Reach ws lot j)
theorem mem_clo {ws : List (List Nat)} {lot : List Nat} (hw : WfW ws) (hl : ∀ x ∈ lot, x < ws.length) (j : Nat) : j ∈ clo ws lot ↔ Reach ws lot j := by
  unfold clo
  rw [List.mem_filter, List.mem_range]
  constructor
  · intro h
    simpa using h.2
  · intro h
    exact ⟨h.lt hw hl, by simpa using h⟩
theorem clo_up (ws : List (List Nat)) (lot : List Nat) : (clo ws lot).Pairwise (· < ·) := List.Pairwise.filter _ List.pairwise_lt_range
theorem clo_lt {ws : List (List Nat)} {lot : List Nat} {j : Nat} (h : j ∈ clo ws lot) : j < ws.length := List.mem_range.mp (List.mem_filter.mp h).1
theorem clo_len (ws : List (List Nat)) (lot : List Nat) : (clo ws lot).length ≤ ws.length := by
  have := List.length_filter_le (fun j => @decide (Reach ws lot j) (Classical.propDecidable _)) (List.range ws.length)
  rw [List.length_range] at this
  exact this
theorem up_nodup {l : List Nat} (h : l.Pairwise (· < ·)) : l.Nodup := h.imp (fun h => Nat.ne_of_lt h)
theorem up_ext : ∀ {as bs : List Nat}, as.Pairwise (· < ·) → bs.Pairwise (· < ·) → (∀ k, k ∈ as ↔ k ∈ bs) → as = bs
  | [], [], _, _, _ => rfl
  | [], b :: bs, _, _, h => by have := (h b).mpr (by simp); simp at this
  | a :: as, [], _, _, h => by have := (h a).mp (by simp); simp at this
  | a :: as, b :: bs, ha, hb, h => by
    obtain ⟨ha1, ha2⟩ := List.pairwise_cons.mp ha
    obtain ⟨hb1, hb2⟩ := List.pairwise_cons.mp hb
    have e : a = b := by
      have h1 : a ∈ b :: bs := (h a).mp (by simp)
      have h2 : b ∈ a :: as := (h b).mpr (by simp)
      rcases List.mem_cons.mp h1 with z | z
      · exact z
      · rcases List.mem_cons.mp h2 with y | y
        · exact y.symm
        · have := hb1 a z
          have := ha1 b y
          omega
    subst e
    congr 1
    refine up_ext ha2 hb2 fun k => ?_
    constructor
    · intro hk
      rcases List.mem_cons.mp ((h k).mp (by simp [hk])) with z | z
      · have := ha1 k hk
        omega
      · exact z
    · intro hk
      rcases List.mem_cons.mp ((h k).mpr (by simp [hk])) with z | z
      · have := hb1 k hk
        omega
      · exact z
theorem nodup_len : ∀ {n : Nat} {l : List Nat}, l.Nodup → (∀ x ∈ l, x < n) → l.length ≤ n
  | 0, [], _, _ => Nat.le_refl _
  | 0, x :: l, _, h => absurd (h x (by simp)) (Nat.not_lt_zero x)
  | n + 1, l, nd, h => by
    by_cases hn : n ∈ l
    · have h1 := List.length_erase_of_mem hn
      have h2 : (l.erase n).length ≤ n := nodup_len (nd.erase n) fun x hx => by
        have h3 := nd.mem_erase_iff.mp hx
        have := h x h3.2
        have := h3.1
        omega
      have := List.length_pos_of_mem hn
      omega
    · have := nodup_len (n := n) nd fun x hx => by
        have h1 := h x hx
        have h2 : x ≠ n := fun z => hn (z ▸ hx)
        omega
      omega
theorem perm_of {as bs : List Nat} (ha : as.Nodup) (hb : bs.Nodup) (h : ∀ k, k ∈ as ↔ k ∈ bs) : as.Perm bs := (List.perm_ext_iff_of_nodup ha hb).mpr fun k => h k

/-- the waits of deeds -/
def wts (dl : List Deed) : List (List Nat) := dl.map (·.waits)
theorem wts_len (dl : List Deed) : (wts dl).length = dl.length := by simp [wts]
theorem wts_get {dl : List Deed} {i : Nat} {d : Deed} (h : dl[i]? = some d) : (wts dl)[i]? = some d.waits := by simp [wts, h]
/-- the needs of a lot, added -/
def needAt (dl : List Deed) (j : Nat) : Int := (dl[j]?.map (·.need)).getD 0
def needSum (dl : List Deed) (lot : List Nat) : Int := (lot.map (needAt dl)).sum
/-- the load of a deed -/
noncomputable def load (h : Int) (dl : List Deed) (i : Nat) : Int := match dl[i]? with
  | none => 0
  | some d => match d.first with
    | none => d.need
    | some f => h - f + needSum dl (clo (wts dl) (List.range (i + 1)))
noncomputable def loads (h : Int) (dl : List Deed) : List Int := (List.range dl.length).map (load h dl)
end K06
/-! M2: what holds of a standing's parts; plain Lean. -/
namespace K06
/-- ascending numbers below a bound -/
structure Asc (ns : List Nat) (many : Nat) : Prop where
  up : ns.Pairwise (· < ·)
  lt : ∀ x ∈ ns, x < many
/-- nobody waits for itself, however far -/
def Acyc (ws : List (List Nat)) : Prop := ∃ rk : Nat → Nat, ∀ (i : Nat) (l : List Nat), ws[i]? = some l → ∀ j ∈ l, rk j < rk i
/-- the one is elder than the other -/
def Elder (a b : Deed) : Prop := b.first = none ∨ ∃ x y, a.first = some x ∧ b.first = some y ∧ x < y
structure Ok (b h : Int) (dl : List Deed) : Prop where
  len : dl.length ≤ 30
  h0 : 0 ≤ h
  hb : h ≤ b
  need : ∀ d ∈ dl, 0 ≤ d.need ∧ d.need ≤ b
  fst : ∀ d ∈ dl, ∀ f, d.first = some f → 0 ≤ f ∧ f < h
  up : dl.Pairwise Elder
  wt : ∀ (i : Nat) (d : Deed), dl[i]? = some d → Asc d.waits dl.length
  ac : Acyc (wts dl)
theorem Ok.wf {b h : Int} {dl : List Deed} (o : Ok b h dl) : WfW (wts dl) := by
  intro i l hl j hj
  unfold wts at hl
  rw [List.getElem?_map] at hl
  cases q : dl[i]? with
  | none => rw [q] at hl; cases hl
  | some d =>
    rw [q] at hl
    cases hl
    rw [wts_len]
    exact (o.wt i d q).lt j hj
theorem Acyc.no {ws : List (List Nat)} (h : Acyc ws) {i : Nat} {l : List Nat} (e : ws[i]? = some l) : ¬ Reach ws l i := by
  obtain ⟨rk, hr⟩ := h
  have : ∀ j, Reach ws l j → rk j < rk i := fun j r => by
    induction r with
    | base m => exact hr i l e _ m
    | step _ e' m ih => exact Nat.lt_trans (hr _ _ e' _ m) ih
  intro r
  exact Nat.lt_irrefl _ (this i r)
theorem Ok.nself {b h : Int} {dl : List Deed} (o : Ok b h dl) {i : Nat} {d : Deed} (e : dl[i]? = some d) : i ∉ d.waits := fun z => by
  obtain ⟨rk, hr⟩ := o.ac
  exact Nat.lt_irrefl _ (hr i d.waits (wts_get e) i z)
theorem Ok.elder {b h : Int} {dl : List Deed} (o : Ok b h dl) {i j : Nat} {x y : Deed} (hi : dl[i]? = some x) (hj : dl[j]? = some y) (l : i < j) : Elder x y := by
  obtain ⟨hi1, hi2⟩ := List.getElem?_eq_some_iff.mp hi
  obtain ⟨hj1, hj2⟩ := List.getElem?_eq_some_iff.mp hj
  have := List.pairwise_iff_getElem.mp o.up i j hi1 hj1 l
  rw [hi2, hj2] at this
  exact this
/-- the cells in use -/
def used0 (h : Int) (dl : List Deed) : Int := match dl with
  | [] => 0
  | d :: _ => match d.first with
    | none => 0
    | some f => h - f
end K06
/-! D1: checks. -/
namespace K06
open PySem PySem.Spec L2
variable {P : Program} {w : World} {K : PySem.W.Frag} {mg : Str → Option Value} {base : Heap} {CS : Addr} {X : Cx}
/-- a def of the text behind the top -/
structure Df (K : PySem.W.Frag) (mg : Str → Option Value) (nm : Str) (st : Stmt) : Prop where
  ex : ∃ (f : Addr) (fd : FuncData), L2.Fun K nm nm st f fd ∧ mg nm = some (.ref f)
abbrev Pr (r : D) : Post := { nx := fun _ => r = .non, rt := fun _ d => d = r }

def R_is_integer (ds : List D) (r : D) : Prop := ∃ i : Int, ds = [.int i] ∧ r = .bl true
theorem b_is_integer (C : Ctx X (defScope s_is_integer) N_is_integer V_is_integer V_is_integer G_is_integer) {i : Int} : XSs X CS (defBody s_is_integer) (startD N_is_integer [.im (.int i)]) (Pr (.bl true)) :=
  xss_ret (xe_and (xe_isi C 0 rfl (xe_v C 0 rfl rfl rfl) (xe_bt (T := "int") C 1 rfl C.glb.int (by decide +kernel)) (q := true) rfl (by decide +kernel)) (fun _ => (xe_one (xe_not (xe_isi C 0 rfl (xe_v C 0 rfl rfl rfl) (xe_bt (T := "bool") C 2 rfl C.glb.bool (by decide +kernel)) (q := false) rfl (by decide +kernel))))) (fun h => nomatch h)) rfl rfl
theorem c_is_integer (D : Df K mg "is_integer" s_is_integer) (hg : Glb mg) : CalP P w K mg base 1 "is_integer" (spD CS R_is_integer) := by
  obtain ⟨f, fd, F, hm⟩ := D.ex
  refine ⟨f, fd, _, def_D F sc_is_integer (by rintro _ _ ⟨i, rfl, _⟩; rfl) (fun cdv A outer s H E ds r hr hR => ?_), hm, F.kp, F.binds fun _ _ _ _ _ _ us hl => match us, hl with | [_], _ => rfl⟩
  obtain ⟨i, rfl, rfl⟩ := hR
  exact b_is_integer (Ctx.body ok_is_integer sc_is_integer.nd hg)

def R_is_within (ds : List D) (r : D) : Prop := ∃ i lo hi : Int, ds = [.int i, .int lo, .int hi] ∧ r = .bl (decide (lo ≤ i) && decide (i ≤ hi))
theorem b_is_within (C : Ctx X (defScope s_is_within) N_is_within V_is_within V_is_within G_is_within) (hr : Room 1 X.A) (c_is_integer : CalX X 1 "is_integer" (spD CS R_is_integer)) {i lo hi : Int} :
    XSs X CS (defBody s_is_within) (startD N_is_within [.im (.int i), .im (.int lo), .im (.int hi)]) (Pr (.bl (decide (lo ≤ i) && decide (i ≤ hi)))) :=
  xss_ret (xe_and (xn (xe_call c_is_integer hr (by decide) C 0 rfl (xa_cons (xe_v C 0 rfl rfl rfl) xa_nil) (argc_ds _ [_]) ⟨i, rfl, rfl⟩)) (fun _ => (xe_one (xe_lele (xe_v C 1 rfl rfl rfl) (xe_v C 0 rfl rfl rfl) (xe_v C 2 rfl rfl rfl)))) (fun h => nomatch h)) rfl rfl
theorem c_is_within (D : Df K mg "is_within" s_is_within) (hg : Glb mg) (c1 : CalP P w K mg base 1 "is_integer" (spD CS R_is_integer)) : CalP P w K mg base 2 "is_within" (spD CS R_is_within) := by
  obtain ⟨f, fd, F, hm⟩ := D.ex
  refine ⟨f, fd, _, def_D F sc_is_within (by rintro _ _ ⟨i, lo, hi, rfl, _⟩; rfl) (fun cdv A outer s H E ds r hr hR => ?_), hm, F.kp, F.binds fun _ _ _ _ _ _ us hl => match us, hl with | [_, _, _], _ => rfl⟩
  obtain ⟨i, lo, hi, rfl, rfl⟩ := hR
  exact b_is_within (Ctx.body ok_is_within sc_is_within.nd hg) hr c1
/-- within: the answer is True -/
theorem within_t {i lo hi : Int} (h1 : lo ≤ i) (h2 : i ≤ hi) : R_is_within [.int i, .int lo, .int hi] (.bl true) := ⟨i, lo, hi, rfl, by rw [decide_eq_true h1, decide_eq_true h2]; rfl⟩

def R_is_number (ds : List D) (r : D) : Prop := ∃ i m : Int, ds = [.int i, .int m] ∧ 0 ≤ i ∧ i ≤ m ∧ r = .bl true
theorem b_is_number (C : Ctx X (defScope s_is_number) N_is_number V_is_number V_is_number G_is_number) (hr : Room 2 X.A) (c_is_within : CalX X 2 "is_within" (spD CS R_is_within)) {i m : Int} (h0 : 0 ≤ i) (h1 : i ≤ m) :
    XSs X CS (defBody s_is_number) (startD N_is_number [.im (.int i), .im (.int m)]) (Pr (.bl true)) :=
  xss_ret (xn (xe_call c_is_within hr (by decide) C 0 rfl (xa_cons (xe_v C 0 rfl rfl rfl) (xa_cons xe_int (xa_cons (xe_v C 1 rfl rfl rfl) xa_nil))) (argc_ds _ [_, _, _]) (within_t h0 h1))) rfl rfl
theorem c_is_number (D : Df K mg "is_number" s_is_number) (hg : Glb mg) (c1 : CalP P w K mg base 2 "is_within" (spD CS R_is_within)) : CalP P w K mg base 3 "is_number" (spD CS R_is_number) := by
  obtain ⟨f, fd, F, hm⟩ := D.ex
  refine ⟨f, fd, _, def_D F sc_is_number (by rintro _ _ ⟨i, m, rfl, _⟩; rfl) (fun cdv A outer s H E ds r hr hR => ?_), hm, F.kp, F.binds fun _ _ _ _ _ _ us hl => match us, hl with | [_, _], _ => rfl⟩
  obtain ⟨i, m, rfl, h0, h1, rfl⟩ := hR
  exact b_is_number (Ctx.body ok_is_number sc_is_number.nd hg) hr c1 h0 h1

def R_is_triple (ds : List D) (r : D) : Prop := ∃ a b c : D, ds = [.tup [a, b, c]] ∧ r = .bl true
theorem b_is_triple (C : Ctx X (defScope s_is_triple) N_is_triple V_is_triple V_is_triple G_is_triple) {a b c : D} :
    XSs X CS (defBody s_is_triple) (startD N_is_triple [.im (.tup [a, b, c])]) (Pr (.bl true)) :=
  xss_ret (xe_and (xe_isi C 0 rfl (xe_v C 0 rfl rfl rfl) (xe_bt (T := "tuple") C 1 rfl C.glb.tuple (by decide +kernel)) (q := true) rfl (by decide +kernel)) (fun _ => (xe_one (xe_eq (xe_len C 2 rfl (xe_v C 0 rfl rfl rfl) (.inr rfl)) xe_int opd_eqI))) (fun h => nomatch h)) rfl rfl
theorem c_is_triple (D : Df K mg "is_triple" s_is_triple) (hg : Glb mg) : CalP P w K mg base 1 "is_triple" (spD CS R_is_triple) := by
  obtain ⟨f, fd, F, hm⟩ := D.ex
  refine ⟨f, fd, _, def_D F sc_is_triple (by rintro _ _ ⟨a, b, c, rfl, _⟩; rfl) (fun cdv A outer s H E ds r hr hR => ?_), hm, F.kp, F.binds fun _ _ _ _ _ _ us hl => match us, hl with | [_], _ => rfl⟩
  obtain ⟨a, b, c, rfl, rfl⟩ := hR
  exact b_is_triple (Ctx.body ok_is_triple sc_is_triple.nd hg)

def R_is_listed (ds : List D) (r : D) : Prop := (∃ xs : List D, ds = [.lst xs] ∧ r = .bl true) ∨ ∃ xs : List D, ds = [.tup xs] ∧ r = .bl true
theorem c_is_listed (D : Df K mg "is_listed" s_is_listed) (hg : Glb mg) : CalP P w K mg base 1 "is_listed" (spD CS R_is_listed) := by
  obtain ⟨f, fd, F, hm⟩ := D.ex
  refine ⟨f, fd, _, def_D F sc_is_listed (by rintro _ _ (⟨a, rfl, _⟩ | ⟨a, rfl, _⟩) <;> rfl) (fun cdv A outer s H E ds r hr hR => ?_), hm, F.kp, F.binds fun _ _ _ _ _ _ us hl => match us, hl with | [_], _ => rfl⟩
  have C : Ctx (cxOf CX0 P w K mg base N_is_listed "is_listed" (defScope s_is_listed) f cdv A outer s H E).nox (defScope s_is_listed) N_is_listed V_is_listed V_is_listed G_is_listed := Ctx.body ok_is_listed sc_is_listed.nd hg
  rcases hR with ⟨a, rfl, rfl⟩ | ⟨a, rfl, rfl⟩
  · exact xss_ret (xe_isi2 C 0 rfl (xe_v C 0 rfl rfl rfl) (xe_tup (ds := [_, _]) (xa_cons (xe_bt (T := "list") C 1 rfl C.glb.list (by decide +kernel)) (xa_cons (xe_bt (T := "tuple") C 2 rfl C.glb.tuple (by decide +kernel)) xa_nil)) (by decide)) (q1 := true) (q2 := false) rfl (by decide +kernel) (by decide +kernel)) rfl rfl
  · exact xss_ret (xe_isi2 C 0 rfl (xe_v C 0 rfl rfl rfl) (xe_tup (ds := [_, _]) (xa_cons (xe_bt (T := "list") C 1 rfl C.glb.list (by decide +kernel)) (xa_cons (xe_bt (T := "tuple") C 2 rfl C.glb.tuple (by decide +kernel)) xa_nil)) (by decide)) (q1 := false) (q2 := true) rfl (by decide +kernel) (by decide +kernel)) rfl rfl

theorem natsD_len (ns : List Nat) : (natsD ns).length = ns.length := by simp [natsD]
theorem natsD_get {ns : List Nat} {i : Nat} {n : Nat} (h : ns[i]? = some n) : (natsD ns)[i]? = some (.int (n : Nat)) := by simp [natsD, h]
theorem natsD_of {ns : List Nat} {i : Nat} {d : D} (h : (natsD ns)[i]? = some d) : ∃ n, ns[i]? = some n ∧ d = .int (n : Nat) := by
  unfold natsD at h
  rw [List.getElem?_map, List.getElem?_map] at h
  cases q : ns[i]? with
  | none => rw [q] at h; cases h
  | some n => rw [q] at h; exact ⟨n, rfl, (Option.some.inj h).symm⟩
theorem LFs_nats (ns : List Nat) : LFs (natsD ns) = true := LFs_ints _

def R_is_lot (ds : List D) (r : D) : Prop := ∃ (ns : List Nat) (m : Nat), ds = [.tup (natsD ns), .int (m : Nat)] ∧ Asc ns m ∧ r = .bl true
theorem b_is_lot (C : Ctx X (defScope s_is_lot) N_is_lot V_is_lot V_is_lot G_is_lot) (hr : Room 2 X.A) (c_is_within : CalX X 2 "is_within" (spD CS R_is_within)) {ns : List Nat} {m : Nat} (ha : Asc ns m) :
    XSs X CS (defBody s_is_lot) (startD N_is_lot [.im (.tup (natsD ns)), .im (.int (m : Nat))]) (Pr (.bl true)) := by
  refine xss_if0 (xt_not (xt_v (xe_isi C 0 rfl (xe_v C 0 rfl rfl rfl) (xe_bt (T := "tuple") C 1 rfl C.glb.tuple (by decide +kernel)) (q := true) rfl (by decide +kernel)))) (fun h => nomatch h) (fun _ => ?_)
  refine xss_set C 2 rfl rfl (xe_neg xe_int) ?_ (lt_of rfl)
  refine xss_for C (ds := natsD ns) (xi_t (xe_v C 0 rfl rfl rfl) rfl) (fun i δ => ∃ l x, (∀ j n, i ≤ j → ns[j]? = some n → l + 1 ≤ (n : Int)) ∧ δ = [some (.im (.tup (natsD ns))), some (.im (.int (m : Nat))), some (.im (.int l)), x])
    (fun δ => ∃ l x, δ = [some (.im (.tup (natsD ns))), some (.im (.int (m : Nat))), some (.im (.int l)), x]) ⟨-1, none, fun j n _ _ => by omega, rfl⟩ (fun i d δ hd hI => ?_) (fun δ hI => ?_) (fun δ hI => ?_)
  · obtain ⟨l, x, hl, rfl⟩ := hI
    obtain ⟨n, hn, rfl⟩ := natsD_of hd
    have h1 := hl i n (Nat.le_refl _) hn
    have h2 : n < m := ha.lt n (List.mem_of_getElem? hn)
    refine ⟨_, _, xg_n C 3 rfl rfl (lt_of rfl), ?_⟩
    refine xss_if0 (xt_not (xt_v (xn (xe_call c_is_within hr (by decide) C 2 rfl (xa_cons (xe_v C 3 rfl rfl rfl) (xa_cons (xe_add (xe_v C 2 rfl rfl rfl) xe_int) (xa_cons (xe_sub (xe_v C 1 rfl rfl rfl) xe_int) xa_nil))) (argc_ds _ [_, _, _]) (within_t (i := n) (lo := l + 1) (hi := m - 1) h1 (by omega)))))) (fun h => nomatch h) (fun _ => ?_)
    refine xss_set C 2 rfl rfl (xe_v C 3 rfl rfl rfl) (xss_nil ⟨n, _, fun j k hj hk => ?_, rfl⟩) (lt_of rfl)
    have := List.pairwise_iff_getElem.mp ha.up i j (List.getElem?_eq_some_iff.mp hn).1 (List.getElem?_eq_some_iff.mp hk).1 (by omega)
    rw [(List.getElem?_eq_some_iff.mp hn).2, (List.getElem?_eq_some_iff.mp hk).2] at this
    omega
  · obtain ⟨l, x, _, rfl⟩ := hI
    exact ⟨l, x, rfl⟩
  · obtain ⟨l, x, rfl⟩ := hI
    exact xss_ret xe_bl rfl rfl
theorem c_is_lot (D : Df K mg "is_lot" s_is_lot) (hg : Glb mg) (c1 : CalP P w K mg base 2 "is_within" (spD CS R_is_within)) : CalP P w K mg base 3 "is_lot" (spD CS R_is_lot) := by
  obtain ⟨f, fd, F, hm⟩ := D.ex
  refine ⟨f, fd, _, def_D F sc_is_lot (by rintro _ _ ⟨i, m, rfl, _⟩; rfl) (fun cdv A outer s H E ds r hr hR => ?_), hm, F.kp, F.binds fun _ _ _ _ _ _ us hl => match us, hl with | [_, _], _ => rfl⟩
  obtain ⟨ns, m, rfl, ha, rfl⟩ := hR
  exact b_is_lot (Ctx.body ok_is_lot sc_is_lot.nd hg) hr c1 ha
end K06
/-! D2: waited_for. -/
namespace K06
open PySem PySem.Spec L2
variable {P : Program} {w : World} {K : PySem.W.Frag} {mg : Str → Option Value} {base : Heap} {CS : Addr} {X : Cx}
def encW (ws : List (List Nat)) : List D := ws.map fun w => .tup (natsD w)
theorem encW_get {ws : List (List Nat)} {i : Nat} {l : List Nat} (h : ws[i]? = some l) : (encW ws)[i]? = some (.tup (natsD l)) := by simp [encW, h]
theorem encW_len (ws : List (List Nat)) : (encW ws).length = ws.length := by simp [encW]
theorem atI_of {ds : List D} {i : Nat} {x : D} (h : ds[i]? = some x) : L2.atI ds ((i : Nat) : Int) = some x := atI_nat h
/-- a dict of numbers, each True -/
def kvT (ns : List Nat) : List (Int × D) := ns.map fun k => (((k : Nat) : Int), D.bl true)
theorem kvT_len (ns : List Nat) : (kvT ns).length = ns.length := by simp [kvT]
theorem kvT_look (ns : List Nat) (j : Nat) : (kvT ns).lookup ((j : Nat) : Int) = if j ∈ ns then some (.bl true) else none := by
  induction ns with
  | nil => rfl
  | cons n ns ih =>
    show (((n : Int), D.bl true) :: kvT ns).lookup (j : Int) = _
    rw [List.lookup_cons]
    by_cases e : j = n
    · subst e
      simp
    · have e1 : (((j : Nat) : Int) == ((n : Nat) : Int)) = false := by
        have : ¬ ((j : Nat) : Int) = ((n : Nat) : Int) := by omega
        simpa using this
      rw [e1, ih]
      simp [e]
theorem kvT_keys (ns : List Nat) : (kvT ns).map (·.1) = ns.map fun i => ((i : Nat) : Int) := by simp [kvT]
theorem kvT_lf (ns : List Nat) : LFs ((kvT ns).map (·.2)) = true := LFs_all fun d hd => by
  simp only [kvT, List.map_map, List.mem_map] at hd
  obtain ⟨a, _, rfl⟩ := hd
  rfl
theorem cast_nodup {ns : List Nat} (h : ns.Nodup) : (ns.map fun i => ((i : Nat) : Int)).Nodup := by
  rw [List.nodup_iff_pairwise_ne] at h ⊢
  rw [List.pairwise_map]
  exact h.imp fun z => by omega
theorem cast_up {ns : List Nat} (h : ns.Pairwise (· < ·)) : (ns.map fun i => ((i : Nat) : Int)).Pairwise (· ≤ ·) := by
  rw [List.pairwise_map]
  exact h.imp fun z => by omega
theorem cast_ups {ns : List Nat} (h : ns.Pairwise (· < ·)) : (ns.map fun i => ((i : Nat) : Int)).Pairwise (· < ·) := by
  rw [List.pairwise_map]
  exact h.imp fun z => by omega
theorem cast_up2 {ns : List Nat} (h : ns.Pairwise (· ≤ ·)) : (ns.map fun i => ((i : Nat) : Int)).Pairwise (· ≤ ·) := by
  rw [List.pairwise_map]
  exact h.imp fun z => by omega
theorem natsD_app (as bs : List Nat) : natsD (as ++ bs) = natsD as ++ natsD bs := by simp [natsD]

/-- what holds while it seeks -/
structure WInv (ws : List (List Nat)) (lot keys wt : List Nat) : Prop where
  nd : keys.Nodup
  lt : ∀ x ∈ keys, x < ws.length
  rc : ∀ x ∈ keys, Reach ws lot x
  lot : ∀ x ∈ lot, x ∈ keys
  wtm : ∀ x ∈ wt, x ∈ keys
  wl : wt.length ≤ keys.length
/-- those behind whom nothing is left -/
def WDone (ws : List (List Nat)) (keys wt : List Nat) : Prop := ∀ x ∈ keys, x ∉ wt → ∀ l, ws[x]? = some l → ∀ j ∈ l, j ∈ keys
theorem WInv.fin {ws : List (List Nat)} {lot keys : List Nat} (h : WInv ws lot keys []) (d : WDone ws keys []) (k : Nat) : k ∈ keys ↔ Reach ws lot k := by
  refine ⟨h.rc k, fun r => ?_⟩
  induction r with
  | base m => exact h.lot _ m
  | step _ e m ih => exact d _ ih (by simp) _ e _ m

def R_waited_for (ds : List D) (r : D) : Prop := ∃ (ws : List (List Nat)) (lot : List Nat), ds = [.lst (encW ws), .tup (natsD lot)] ∧ WfW ws ∧ (∀ x ∈ lot, x < ws.length) ∧ lot.Nodup ∧ ws.length ≤ 60 ∧ r = .tup (natsD (clo ws lot))
abbrev S_wf (ws : List (List Nat)) (lot keys wt : List Nat) (lf lw : Addr) (x4 x5 : Option Slot) : Sto := [some (.im (.lst (encW ws))), some (.im (.tup (natsD lot))), some (.md lf (kvT keys)), some (.ml lw (natsD wt)), x4, x5]
theorem b_waited_for (C : Ctx X (defScope s_waited_for) N_waited_for V_waited_for V_waited_for G_waited_for) (hr : Room 1 X.A) {ws : List (List Nat)} {lot : List Nat} (hw : WfW ws) (hl : ∀ x ∈ lot, x < ws.length) (nd : lot.Nodup) (hn : ws.length ≤ 60) :
    XSs X CS (defBody s_waited_for) (startD N_waited_for [.im (.lst (encW ws)), .im (.tup (natsD lot))]) (Pr (.tup (natsD (clo ws lot)))) := by
  have hu : X.A.units + 1 < cLine := hu_of hr
  have ll : lot.length ≤ 60 := Nat.le_trans (nodup_len nd hl) hn
  refine xss_setDc C 2 rfl rfl [5] [5] [] (own := [("deed", 5)]) (F := kvT lot) (xi_t (xe_v C 1 rfl rfl rfl) rfl) (by decide +kernel) (by decide +kernel) (LFs_nats lot) (by rw [natsD_len]; omega) (by rw [natsD_len, kvT_len]) (by rw [kvT_keys]; exact cast_nodup nd) (kvT_lf lot) (fun i d hd => ?_) Cng.refl (lt_of rfl) (fun lf => ?_) (by intro _; rfl)
    (.inl ⟨by decide +kernel, rfl, rfl, by decide +kernel⟩)
  · obtain ⟨n, hn', rfl⟩ := natsD_of hd
    exact ⟨[5], _, (n : Nat), .bl true, rfl, by simp [kvT, hn'], fun Y hB CY => xg_n CY 5 rfl rfl (lt_of rfl), fun Y hB CY => xe_v CY 5 rfl rfl rfl, fun Y hB CY => xe_bl, rfl⟩
  refine xss_setL C 3 rfl rfl (xe_list C 0 rfl (xe_v C 1 rfl rfl rfl) (.inr rfl) (LFs_nats lot)) (LFs_nats lot) (fun lw => ?_) (lt_of rfl)
  refine xss_while C (fun m δ => ∃ keys wt x4 x5, δ = S_wf ws lot keys wt lf lw x4 x5 ∧ WInv ws lot keys wt ∧ WDone ws keys wt ∧ m = 2 * (ws.length - keys.length) + wt.length) (fun δ => ∃ keys x4 x5, δ = S_wf ws lot keys [] lf lw x4 x5 ∧ WInv ws lot keys [] ∧ WDone ws keys []) _
    ⟨lot, lot, none, none, rfl, ⟨nd, hl, fun x hx => .base hx, fun x hx => hx, fun x hx => hx, Nat.le_refl _⟩, fun x hx nx => absurd hx nx, rfl⟩ (fun m δ hI => ?_) (fun δ hI => ?_)
  · obtain ⟨keys, wt, x4, x5, rfl, hinv, hdone, rfl⟩ := hI
    refine ⟨_, _, xt_gt (xe_len C 1 rfl (xe_m C 3 rfl rfl rfl rfl) (.inl ⟨3, rfl⟩)) xe_int, fun hb => ?_, fun hb => ?_⟩
    · have hpos : 0 < wt.length := by
        have := of_decide_eq_true hb
        rw [natsD_len] at this
        omega
      obtain ⟨wt', top, rfl⟩ : ∃ wt' top, wt = wt' ++ [top] := ⟨wt.dropLast, wt.getLast (by intro z; subst z; simp at hpos), (List.dropLast_concat_getLast _).symm⟩
      have htk : top ∈ keys := hinv.wtm top (by simp)
      have htl : top < ws.length := hinv.lt top htk
      have hget : ws[top]? = some ws[top] := by simp [htl]
      have klen : keys.length ≤ ws.length := nodup_len hinv.nd hinv.lt
      refine xss_for C (ds := natsD ws[top]) (xi_t (xe_ixL (xe_v C 0 rfl rfl rfl) (xe_pop (ds := natsD wt') (x := .int (top : Nat)) C 3 rfl rfl (by rw [show S_wf ws lot keys (wt' ++ [top]) lf lw x4 x5 = [some (.im (.lst (encW ws))), some (.im (.tup (natsD lot))), some (.md lf (kvT keys)), some (.ml lw (natsD wt' ++ [.int (top : Nat)])), x4, x5] by rw [← show natsD [top] = [D.int (top : Nat)] from rfl, ← natsD_app]]; rfl)) (by exact rfl) (atI_of (encW_get hget))) rfl)
        (fun i δ => ∃ keys' wt'' x4 x5, δ = S_wf ws lot keys' wt'' lf lw x4 x5 ∧ WInv ws lot keys' wt'' ∧ (∀ x ∈ keys', x ∉ wt'' → x ≠ top → ∀ l, ws[x]? = some l → ∀ j ∈ l, j ∈ keys') ∧ (∀ j ∈ ws[top].take i, j ∈ keys') ∧ 2 * (ws.length - keys'.length) + wt''.length ≤ 2 * (ws.length - keys.length) + wt'.length) _
        ⟨keys, wt', x4, x5, rfl, ⟨hinv.nd, hinv.lt, hinv.rc, hinv.lot, fun x hx => hinv.wtm x (by simp [hx]), by have := hinv.wl; rw [List.length_append, List.length_singleton] at this; omega⟩, fun x hx nx nt => hdone x hx (fun z => (List.mem_append.mp z).elim nx fun z => nt (List.mem_singleton.mp z)), fun j hj => by simp at hj, Nat.le_refl _⟩ (fun i d δ hd hI => ?_) (fun δ hI => hI) (fun δ hI => ?_)
      · obtain ⟨keys', wt'', x4, x5, rfl, hinv', hdone', htake, hm⟩ := hI
        obtain ⟨n, hn', rfl⟩ := natsD_of hd
        have hnl : n < ws.length := hw top _ hget n (List.mem_of_getElem? hn')
        have htk1 : ∀ (ks : List Nat), (∀ j ∈ ws[top].take i, j ∈ ks) → n ∈ ks → ∀ j ∈ ws[top].take (i + 1), j ∈ ks := fun ks h1 h2 j hj => by
          rw [List.take_add_one, hn'] at hj
          rcases List.mem_append.mp hj with z | z
          · exact h1 j z
          · have : j = n := by simpa using z
            exact this ▸ h2
        refine ⟨_, _, xg_n C 4 rfl rfl (lt_of rfl), ?_⟩
        refine xss_if (Mid := fun δ => ∃ keys' wt'' x4 x5, δ = S_wf ws lot keys' wt'' lf lw x4 x5 ∧ WInv ws lot keys' wt'' ∧ (∀ x ∈ keys', x ∉ wt'' → x ≠ top → ∀ l, ws[x]? = some l → ∀ j ∈ l, j ∈ keys') ∧ (∀ j ∈ ws[top].take (i + 1), j ∈ keys') ∧ 2 * (ws.length - keys'.length) + wt''.length ≤ 2 * (ws.length - keys.length) + wt'.length)
          (xt_dnotin hu (xe_v C 4 rfl rfl rfl) (xe_m C 2 rfl rfl rfl rfl) ⟨2, rfl⟩) (fun hb => ?_) (fun hb => ?_) (fun δ h => xss_nil h)
        · have hni : n ∉ keys' := fun z => by
            rw [kvT_look, if_pos z] at hb
            cases hb
          have k1 : (n :: keys').Nodup := List.nodup_cons.mpr ⟨hni, hinv'.nd⟩
          have k2 : (n :: keys').length ≤ ws.length := nodup_len k1 fun x hx => by
            rcases List.mem_cons.mp hx with z | z
            · exact z ▸ hnl
            · exact hinv'.lt x z
          have k3 : keys'.length + 1 ≤ ws.length := k2
          have memk : ∀ x, x ∈ keys' ++ [n] ↔ x ∈ keys' ∨ x = n := fun x => by simp
          have rn : Reach ws lot n := .step (hinv.rc top htk) hget (List.mem_of_getElem? hn')
          have e1 : kvT keys' ++ [(((n : Nat) : Int), D.bl true)] = kvT (keys' ++ [n]) := by simp [kvT]
          have e2 : natsD wt'' ++ [D.int (n : Nat)] = natsD (wt'' ++ [n]) := by simp [natsD]
          have hwl : wt''.length ≤ 200 := by
            have := hinv'.wl
            omega
          refine xss_dput hu C 2 rfl rfl xe_bl rfl (xe_v C 4 rfl rfl rfl) (by rw [kvT_look, if_neg hni]) rfl (by rw [kvT_len]; omega) ?_
          refine xss_app C 3 rfl rfl rfl (xe_v C 4 rfl rfl rfl) rfl rfl (by rw [natsD_len]; omega) (xss_nil ⟨keys' ++ [n], wt'' ++ [n], some (.im (.int (n : Nat))), x5, ?_, ⟨?_, fun x hx => ?_, fun x hx => ?_, fun x hx => (memk x).mpr (.inl (hinv'.lot x hx)), fun x hx => ?_, ?_⟩, fun x hx nx nt l e j hj => ?_, htk1 _ (fun j hj => (memk j).mpr (.inl (htake j hj))) (by simp), ?_⟩)
          · show [_, _, some (Slot.md lf (kvT keys' ++ [_])), some (Slot.ml lw (natsD wt'' ++ [_])), _, _] = _
            rw [e1, e2]
          · exact (List.perm_append_singleton n keys').nodup_iff.mpr k1
          · rcases (memk x).mp hx with z | z
            · exact hinv'.lt x z
            · exact z ▸ hnl
          · rcases (memk x).mp hx with z | z
            · exact hinv'.rc x z
            · exact z ▸ rn
          · rcases List.mem_append.mp hx with z | z
            · exact (memk x).mpr (.inl (hinv'.wtm x z))
            · exact (memk x).mpr (.inr (List.mem_singleton.mp z))
          · have := hinv'.wl
            rw [List.length_append, List.length_append, List.length_singleton]
            omega
          · rcases (memk x).mp hx with z | z
            · exact (memk j).mpr (.inl (hdone' x z (fun y => nx (by simp [y])) nt l e j hj))
            · exact absurd (show x ∈ wt'' ++ [n] by simp [z]) nx
          · rw [List.length_append, List.length_append, List.length_singleton]
            omega
        · have hyi : n ∈ keys' := by
            rw [kvT_look] at hb
            by_cases z : n ∈ keys'
            · exact z
            · rw [if_neg z] at hb
              cases hb
          exact xss_nil ⟨keys', wt'', _, _, rfl, hinv', hdone', htk1 _ htake hyi, hm⟩
      · obtain ⟨keys', wt'', x4, x5, rfl, hinv', hdone', htake, hm⟩ := hI
        refine xss_nil ⟨_, ?_, keys', wt'', x4, x5, rfl, hinv', fun x hx nx l e j hj => ?_, rfl⟩
        · rw [List.length_append, List.length_singleton]
          omega
        · by_cases et : x = top
          · subst et
            rw [hget] at e
            cases e
            refine htake j ?_
            rw [natsD_len, List.take_length]
            exact hj
          · exact hdone' x hx nx et l e j hj
    · have h0 : wt = [] := by
        have := of_decide_eq_false hb
        rw [natsD_len] at this
        exact List.eq_nil_of_length_eq_zero (by omega)
      subst h0
      exact ⟨keys, x4, x5, rfl, hinv, hdone⟩
  · obtain ⟨keys, x4, x5, rfl, hinv, hdone⟩ := hI
    have klen : keys.length ≤ ws.length := nodup_len hinv.nd hinv.lt
    have hp : ((clo ws lot).map fun i => ((i : Nat) : Int)).Perm ((kvT keys).map (·.1)) := by
      rw [kvT_keys]
      exact (perm_of (up_nodup (clo_up ws lot)) hinv.nd fun k => by rw [mem_clo hw hl, hinv.fin hdone]).map _
    exact xss_ret (xe_tuple C 2 rfl (xe_sortedD C 3 rfl (xe_m C 2 rfl rfl rfl rfl) ⟨2, rfl⟩ (by rw [kvT_len]; omega) hp (cast_up (clo_up ws lot))) rfl) rfl (LFs_nats _)
theorem c_waited_for (D : Df K mg "waited_for" s_waited_for) (hg : Glb mg) : CalP P w K mg base 2 "waited_for" (spD CS R_waited_for) := by
  obtain ⟨f, fd, F, hm⟩ := D.ex
  refine ⟨f, fd, _, def_D F sc_waited_for (by rintro _ _ ⟨i, m, rfl, _⟩; rfl) (fun cdv A outer s H E ds r hr hR => ?_), hm, F.kp, F.binds fun _ _ _ _ _ _ us hl => match us, hl with | [_, _], _ => rfl⟩
  obtain ⟨ws, lot, rfl, h1, h2, h3, h4, rfl⟩ := hR
  exact b_waited_for (Ctx.body ok_waited_for sc_waited_for.nd hg) hr h1 h2 h3 h4
end K06
/-! K11: defs made; pure comprehensions; standings' data. -/
namespace K06
open PySem PySem.Spec L2
variable {P : Program} {w : World} {K : PySem.W.Frag} {mg : Str → Option Value} {base : Heap} {CS : Addr} {X : Cx}
theorem le_of {k n : Nat} (h : Nat.ble k n = true) : k ≤ n := Nat.le_of_ble_eq_true h
/-- where a def's body runs -/
structure CxI (P : Program) (w : World) (K : PySem.W.Frag) (mg : Str → Option Value) (base : Heap) (X : Cx) : Prop where
  p : X.prog = P
  w : X.w = w
  k : X.K = K
  m : X.mg = mg
  b : X.base = base
theorem CxI.cal (h : CxI P w K mg base X) {k : Nat} {nm : Str} {sp : Sp} (c : CalP P w K mg base k nm sp) : CalX X k nm sp := by
  obtain ⟨rfl, rfl, rfl, rfl, rfl⟩ := h
  exact c
theorem CxI.std (h : CxI P w K mg base X) (c : StdC K CS) : StdC X.K CS := by
  obtain ⟨rfl, rfl, rfl, rfl, rfl⟩ := h
  exact c
theorem CxI.mgs (h : CxI P w K mg base X) {nm : Str} {u : Option Value} (c : mg nm = u) : X.mg nm = u := by
  obtain ⟨rfl, rfl, rfl, rfl, rfl⟩ := h
  exact c
theorem mkD {nm : Str} {st : Stmt} {N ps gs : List Str} {vs ls : List Nat} {k : Nat} {R : List D → D → Prop} (D : Df K mg nm st) (hg : Glb mg) (S : FnScope N ps (defScope st)) (ok : scOk N vs ls gs (defScope st) = true) (len : ∀ ds r, R ds r → ds.length = ps.length)
    (b : ∀ X, CxI P w K mg base X → Ctx X (defScope st) N vs ls gs → Room k X.A → ∀ ds r, R ds r → XSs X CS (defBody st) (startD N (ds.map Slot.im)) (Pr r))
    (bd : ∀ (f : Addr) (fd : FuncData), L2.Fun K nm nm st f fd → Binds K fd ps []) : CalP P w K mg base (k + 1) nm (spD CS R) := by
  obtain ⟨f, fd, F, hm⟩ := D.ex
  refine ⟨f, fd, _, def_D F S len (fun cdv A outer s H E ds r hr hR => ?_), hm, F.kp, bd f fd F⟩
  exact b _ ⟨rfl, rfl, rfl, rfl, rfl⟩ (Ctx.body ok S.nd hg) hr ds r hR
theorem mkH {nm : Str} {st : Stmt} {N ps gs : List Str} {vs ls : List Nat} {k : Nat} {R : Hand → List D → D → Hand → Prop} (D : Df K mg nm st) (hg : Glb mg) (S : FnScope N ps (defScope st)) (ok : scOk N vs ls gs (defScope st) = true) (len : ∀ g ds r g', R g ds r g' → ds.length + 1 = ps.length)
    (b : ∀ X, CxI P w K mg base X → Ctx X (defScope st) N vs ls gs → Room k X.A → ∀ p c g ds r g', R g ds r g' → g'.cells = g.cells → XSs X CS (defBody st) (startD N (.hd p c g :: ds.map Slot.im)) { nx := fun _ => False, rt := fun δ d => d = r ∧ δ[0]? = some (some (.hd p c g')) })
    (bd : ∀ (f : Addr) (fd : FuncData), L2.Fun K nm nm st f fd → Binds K fd ps []) : CalP P w K mg base (k + 1) nm (spH CS R) := by
  obtain ⟨f, fd, F, hm⟩ := D.ex
  refine ⟨f, fd, _, def_H F S len (fun cdv A outer s H E p c g ds r g' hr hR hc => ?_), hm, F.kp, bd f fd F⟩
  exact b _ ⟨rfl, rfl, rfl, rfl, rfl⟩ (Ctx.body ok S.nd hg) hr p c g ds r g' hR hc

section
variable {sc : Scope} {N : List Str} {vs ls : List Nat} {gs : List Str} {tg iter elt : Expr} {ifs : List Expr} {scope : Scope} {own : List (Str × Nat)} {pos : Pos} {δ δ1 : Sto} {ds accF : List D}
theorem cell_swaps {kx vx : Expr} {gens : List Comprehension} {scope : Scope} {pos py : Pos} {y : Str} {l : Nat} {env : Env} (hk : env.scope.kind = .function) (hy : env.scope.names.lookup y = some .cell) : swapsWith (.DictComp kx vx gens scope pos) (some (.Name y py)) l env = pure false := by
  have ky : env.kindOf y = some .cell := hy
  have hb : env.blockKind = .function := by unfold Env.blockKind; rw [hk]; rfl
  unfold swapsWith
  simp only [hb, ky, Expr.pos]
  rfl
/-- what is asked of the turns of a comprehension that changes nothing -/
structure PcT (X : Cx) (CS : Addr) (N : List Str) (vs' ls' : List Nat) (gs' : List Str) (scope : Scope) (tg elt : Expr) (ifs : List Expr) (ws : List Nat) (δ0 : Sto) (d : D) (o : Option D) : Prop where
  ex : ∃ us δ2 b, (us.all fun j => ws.contains j) = true ∧ (∀ Y, Blk X scope Y → Ctx Y Y.env.scope N vs' ls' gs' → XG Y CS tg us d δ0 δ2) ∧ (∀ Y, Blk X scope Y → Ctx Y Y.env.scope N vs' ls' gs' → XTs Y CS ifs δ2 b δ2) ∧
      (b = true → ∃ x, o = some x ∧ (∀ Y, Blk X scope Y → Ctx Y Y.env.scope N vs' ls' gs' → XE Y CS elt δ2 (.d x) δ2) ∧ LF x = true) ∧ (b = false → o = none) ∧ forget ws δ2 = δ0
theorem take_fm {α : Type} {β : Type} (F : α → Option β) (l : List α) (i : Nat) {d : α} (h : l[i]? = some d) : (l.take (i + 1)).filterMap F = (l.take i).filterMap F ++ (F d).toList := by
  rw [List.take_add_one, h, List.filterMap_append]
  cases q : F d <;> simp [q]
/-- [elt for tg in iter if ..], by a function of the turn's number -/
theorem xe_lcP (F : Nat → Option D) (C : Ctx X sc N vs ls gs) (vs' ls' : List Nat) (gs' : List Str) (hi : XI X CS tg iter δ ds δ1) (ok : blkC N sc scope own = true) (hbk : bkOk N vs' ls' gs' scope = true) (hl : LFs ds = true) (hn : ds.length ≤ 1000)
    (hs : ∀ (i : Nat) (d : D), ds[i]? = some d → PcT X CS N vs' ls' gs' scope tg elt ifs (own.map (·.2)) (forget (own.map (·.2)) δ1) d (F i)) (hF : (List.range ds.length).filterMap F = accF)
    (hfs : ∀ x, foldedSetIterable iter X.env x = pure x := by intro _; rfl) : XE X CS (.ListComp elt [⟨tg, iter, ifs, 0⟩] scope pos) δ (.n (.lst accF)) (forget (own.map (·.2)) δ1) := by
  have lf : ∀ i, i ≤ ds.length → LFs ((List.range i).filterMap F) = true := fun i hi => LFs_all fun x hx => by
    obtain ⟨j, hj, e⟩ := List.mem_filterMap.mp hx
    have hj' : j < ds.length := Nat.lt_of_lt_of_le (List.mem_range.mp hj) hi
    obtain ⟨us, δ2, b, q0, q1, q2, q3, q4, q5⟩ := (hs j ds[j] (by simp [hj'])).ex
    cases b with
    | true =>
      obtain ⟨x', e', _, l⟩ := q3 rfl
      rw [e] at e'
      cases e'
      exact l
    | false => rw [q4 rfl] at e; cases e
  refine xe_lc C vs' ls' gs' hi ok hbk hl hn (fun i acc δ => acc = (List.range i).filterMap F ∧ δ = forget (own.map (·.2)) δ1) ⟨rfl, rfl⟩ (fun i d acc δ' hd hI => ?_) (fun acc δ' h => ⟨h.1.trans hF, h.2⟩) (by rw [← hF]; exact lf _ (Nat.le_refl _)) hfs
  obtain ⟨rfl, rfl⟩ := hI
  obtain ⟨us, δ2, b, q0, q1, q2, q3, q4, q5⟩ := (hs i d hd).ex
  refine ⟨us, δ2, b, δ2, q0, q1, q2, fun hb => ?_, fun hb => ⟨?_, q5⟩⟩
  · obtain ⟨x, e, q6, l⟩ := q3 hb
    refine ⟨x, δ2, q6, l, ?_, q5⟩
    rw [List.range_succ, List.filterMap_append]
    simp [e]
  · rw [List.range_succ, List.filterMap_append]
    simp [q4 hb]
end
theorem used_swapsL {elt : Expr} {gens : List Comprehension} {scope : Scope} {pos py : Pos} {y : Str} {l : Nat} {env : Env} (hk : env.scope.kind = .function) (hy : env.scope.names.lookup y = some .local) (hl : (py.line == pos.line) = true)
    (ha : (scope.names.any fun (n, k) => n == y && (k == .local || k == .cell)) = false) : swapsWith (.ListComp elt gens scope pos) (some (.Name y py)) l env = pure true := by
  have ky : env.kindOf y = some .local := hy
  have hb : env.blockKind = .function := by unfold Env.blockKind; rw [hk]; rfl
  unfold swapsWith
  simp only [hb, ky, ha, Expr.pos, hl]
  rfl
section
variable {sc : Scope} {N : List Str} {vs ls : List Nat} {gs : List Str} {tg iter elt : Expr} {ifs : List Expr} {scope : Scope} {own : List (Str × Nat)} {pos spos : Pos} {δ δ1 : Sto} {ds accF : List D}
/-- y = [elt for tg in iter if ..] on one line, by a function of the turn's number -/
theorem xss_setLcP {rest : List Stmt} {P' : Post} {nm : Str} {p' : Pos} (F : Nat → Option D) (C : Ctx X sc N vs ls gs) (k : Nat) (hik : N[k]? = some nm) (hlk : ls.contains k = true) (hyl : locB sc nm = true) (vs' ls' : List Nat) (gs' : List Str) (hi : XI X CS tg iter δ ds δ1) (ok : blkC N sc scope own = true) (hbk : bkOk N vs' ls' gs' scope = true) (hl : LFs ds = true) (hn : ds.length ≤ 1000)
    (hs : ∀ (i : Nat) (d : D), ds[i]? = some d → PcT X CS N vs' ls' gs' scope tg elt ifs (own.map (·.2)) (forget (own.map (·.2)) δ1) d (F i)) (hF : (List.range ds.length).filterMap F = accF)
    (hkind : sc.kind = .function) (hline : (p'.line == pos.line) = true) (hnm : (scope.names.any fun (n, k) => n == nm && (k == .local || k == .cell)) = false)
    (hlen : k < (forget (own.map (·.2)) δ1).length) (h2 : XSs X CS rest ((forget (own.map (·.2)) δ1).set k (some (.im (.lst accF)))) P')
    (hfs : ∀ x, foldedSetIterable iter X.env x = pure x := by intro _; rfl) : XSs X CS (.Assign [.Name nm p'] (.ListComp elt [⟨tg, iter, ifs, 0⟩] scope pos) spos :: rest) δ P' := by
  have lf : ∀ i, i ≤ ds.length → LFs ((List.range i).filterMap F) = true := fun i hi => LFs_all fun x hx => by
    obtain ⟨j, hj, e⟩ := List.mem_filterMap.mp hx
    have hj' : j < ds.length := Nat.lt_of_lt_of_le (List.mem_range.mp hj) hi
    obtain ⟨us, δ2, b, q0, q1, q2, q3, q4, q5⟩ := (hs j ds[j] (by simp [hj'])).ex
    cases b with
    | true =>
      obtain ⟨x', e', _, l⟩ := q3 rfl
      rw [e] at e'
      cases e'
      exact l
    | false => rw [q4 rfl] at e; cases e
  have hloc : X.env.scope.names.lookup nm = some .local := by
    rw [C.hsc]
    have := hyl
    unfold locB at this
    cases q : sc.names.lookup nm with
    | none => rw [q] at this; simp at this
    | some k => rw [q] at this; cases k <;> simp_all
  refine xss_setLc C k hik hlk hyl vs' ls' gs' hi ok hbk hl hn (fun i acc δ => acc = (List.range i).filterMap F ∧ δ = forget (own.map (·.2)) δ1) ⟨rfl, rfl⟩ (fun i d acc δ' hd hI => ?_) (fun acc δ' h => ⟨h.1.trans hF, h.2⟩) (by rw [← hF]; exact lf _ (Nat.le_refl _)) (used_swapsL (by rw [C.hsc]; exact hkind) hloc hline hnm) hlen h2 hfs
  obtain ⟨rfl, rfl⟩ := hI
  obtain ⟨us, δ2, b, q0, q1, q2, q3, q4, q5⟩ := (hs i d hd).ex
  refine ⟨us, δ2, b, δ2, q0, q1, q2, fun hb => ?_, fun hb => ⟨?_, q5⟩⟩
  · obtain ⟨x, e, q6, l⟩ := q3 hb
    refine ⟨x, δ2, q6, l, ?_, q5⟩
    rw [List.range_succ, List.filterMap_append]
    simp [e]
  · rw [List.range_succ, List.filterMap_append]
    simp [q4 hb]
end
theorem xe_to {e : Expr} {δ δ1 : Sto} {x y : D} (h : XE X CS e δ (.d x) δ1) (q : x = y) : XE X CS e δ (.d y) δ1 := q ▸ h
theorem xe_b {e : Expr} {δ δ1 : Sto} {x y : Bool} (h : XE X CS e δ (.d (.bl x)) δ1) (q : x = y) : XE X CS e δ (.d (.bl y)) δ1 := q ▸ h
theorem xe_i {e : Expr} {δ δ1 : Sto} {x y : Int} (h : XE X CS e δ (.d (.int x)) δ1) (q : x = y) : XE X CS e δ (.d (.int y)) δ1 := q ▸ h
theorem xt_b {e : Expr} {δ δ1 : Sto} {x y : Bool} (h : XT X CS e δ x δ1) (q : x = y) : XT X CS e δ y δ1 := q ▸ h
theorem xt_f {e : Expr} {δ δ1 : Sto} {x : Bool} (h : XT X CS e δ x δ1) (q : x = false) : XT X CS e δ false δ1 := q ▸ h
theorem xt_t {e : Expr} {δ δ1 : Sto} {x : Bool} (h : XT X CS e δ x δ1) (q : x = true) : XT X CS e δ true δ1 := q ▸ h
theorem xe_f {e : Expr} {δ δ1 : Sto} {x : Bool} (h : XE X CS e δ (.d (.bl x)) δ1) (q : x = false) : XE X CS e δ (.d (.bl false)) δ1 := q ▸ h
theorem xe_tr {e : Expr} {δ δ1 : Sto} {x : Bool} (h : XE X CS e δ (.d (.bl x)) δ1) (q : x = true) : XE X CS e δ (.d (.bl true)) δ1 := q ▸ h
theorem xn_to {e : Expr} {δ δ1 : Sto} {x y : D} (h : XE X CS e δ (.n x) δ1) (q : x = y) : XE X CS e δ (.n y) δ1 := q ▸ h
theorem xt_in {ns : List Int} {a b : Expr} {i : Int} {r : Res} {δ δ1 δ2 : Sto} {pos : Pos} (ha : XE X CS a δ (.d (.int i)) δ1) (hb : XE X CS b δ1 r δ2) (hc : SeqC δ2 r (ns.map D.int)) (hm : behindInMarks .In b = false := by rfl) : XT X CS (.Compare a [.In] [b] pos) δ (decide (i ∈ ns)) δ2 :=
  xt_cmp op_in_seq ha hb (fun A B σ H0 H v u Q s t q1 q2 k => by
    obtain ⟨p, ws, e, g1, g2⟩ := hc.at (K := X.K) t s q2
    have e1 : v = .int i := q1
    have e2 := g2.ints
    subst e1; subst e2
    exact ⟨p, _, e, g1, rfl, flat_ints ns, k _ H (Same.refl H) (by rw [inV_ints]; exact rfl)⟩) hm
theorem xt_notin {ns : List Int} {a b : Expr} {i : Int} {r : Res} {δ δ1 δ2 : Sto} {pos : Pos} (ha : XE X CS a δ (.d (.int i)) δ1) (hb : XE X CS b δ1 r δ2) (hc : SeqC δ2 r (ns.map D.int)) (hm : behindInMarks .NotIn b = false := by rfl) : XT X CS (.Compare a [.NotIn] [b] pos) δ (!decide (i ∈ ns)) δ2 :=
  xt_cmp op_notIn_seq ha hb (fun A B σ H0 H v u Q s t q1 q2 k => by
    obtain ⟨p, ws, e, g1, g2⟩ := hc.at (K := X.K) t s q2
    have e1 : v = .int i := q1
    have e2 := g2.ints
    subst e1; subst e2
    exact ⟨p, _, e, g1, rfl, flat_ints ns, k _ H (Same.refl H) (by rw [inV_ints]; exact rfl)⟩) hm
/-- a whole number under a global name -/
def Cst (mg : Str → Option Value) (nm : Str) (i : Int) : Prop := ∃ u, mg nm = some u ∧ RelV (V.int i) u
theorem xe_gi {sc : Scope} {N : List Str} {vs ls : List Nat} {gs : List Str} {i : Int} {δ : Sto} {pos : Pos} {nm : Str} (C : Ctx X sc N vs ls gs) (h : Cst X.mg nm i) (j : Nat) (hj : gs[j]? = some nm) : XE X CS (.Name nm pos) δ (.d (.int i)) δ := by
  obtain ⟨u, h1, h2⟩ := h
  exact xe_g C j hj h1 h2 (fun _ _ => rfl)
/-- a str under a global name -/
def CstS (mg : Str → Option Value) (nm : Str) (t : Str) : Prop := ∃ u, mg nm = some u ∧ RelV (V.str t) u
theorem xe_gs {sc : Scope} {N : List Str} {vs ls : List Nat} {gs : List Str} {t : Str} {δ : Sto} {pos : Pos} {nm : Str} (C : Ctx X sc N vs ls gs) (h : CstS X.mg nm t) (j : Nat) (hj : gs[j]? = some nm) : XE X CS (.Name nm pos) δ (.d (.str t)) δ := by
  obtain ⟨u, h1, h2⟩ := h
  exact xe_g C j hj h1 h2 (fun _ _ => rfl)
/-- a first place -/
def optD : Option Int → D
  | none => .non
  | some f => .int f
def Deed.enc (d : Deed) : D := .tup [optD d.first, .int d.need, .tup (natsD d.waits)]
def encDs (dl : List Deed) : List D := dl.map Deed.enc
theorem encDs_len (dl : List Deed) : (encDs dl).length = dl.length := by simp [encDs]
theorem encDs_get {dl : List Deed} {i : Nat} {d : Deed} (h : dl[i]? = some d) : (encDs dl)[i]? = some d.enc := by simp [encDs, h]
theorem encDs_of {dl : List Deed} {i : Nat} {x : D} (h : (encDs dl)[i]? = some x) : ∃ d, dl[i]? = some d ∧ x = d.enc := by
  unfold encDs at h
  rw [List.getElem?_map] at h
  cases q : dl[i]? with
  | none => rw [q] at h; cases h
  | some d => rw [q] at h; exact ⟨d, rfl, (Option.some.inj h).symm⟩
theorem lf_optD (o : Option Int) : LF (optD o) = true := by cases o <;> rfl
theorem lf_enc (d : Deed) : LF d.enc = true := by
  have h1 := lf_optD d.first
  have h2 : LFs (natsD d.waits) = true := LFs_nats d.waits
  simp only [Deed.enc, LF, LFs, h1, h2, Bool.and_true]
theorem lf_encs (dl : List Deed) : LFs (encDs dl) = true := LFs_map lf_enc dl
theorem isNon_optD (o : Option Int) : (optD o).isNon = o.isNone := by cases o <;> rfl
theorem fm_some {α : Type} (f : Nat → α) (n : Nat) : (List.range n).filterMap (fun i => some (f i)) = (List.range n).map f := by
  rw [← List.filterMap_eq_map]
  rfl
theorem range_get {α β : Type} (l : List α) (f : α → β) (g : Nat → β) (h : ∀ (i : Nat) (x : α), l[i]? = some x → g i = f x) : (List.range l.length).map g = l.map f := by
  refine List.ext_getElem? fun i => ?_
  rw [List.getElem?_map, List.getElem?_map]
  by_cases hi : i < l.length
  · rw [List.getElem?_range hi, List.getElem?_eq_getElem hi]
    simp [h i l[i] (List.getElem?_eq_getElem hi)]
  · rw [List.getElem?_eq_none (by simp; omega), List.getElem?_eq_none (by omega)]
    rfl
end K06
/-! D3: what a right standing is. -/
namespace K06
open PySem PySem.Spec L2
variable {P : Program} {w : World} {K : PySem.W.Frag} {mg : Str → Option Value} {base : Heap} {CS : Addr} {X : Cx}
inductive R_is_first_behind : List D → D → Prop
  | non {h : Int} {l : Option Int} : R_is_first_behind [.int h, optD l, .non] (.bl true)
  | some {h l t : Int} : l < t → t < h → R_is_first_behind [.int h, .int l, .int t] (.bl true)
theorem b_is_first_behind (C : Ctx X (defScope s_is_first_behind) N_is_first_behind V_is_first_behind V_is_first_behind G_is_first_behind) (hr : Room 2 X.A) (c_is_within : CalX X 2 "is_within" (spD CS R_is_within)) {ds : List D} {r : D} (hR : R_is_first_behind ds r) :
    XSs X CS (defBody s_is_first_behind) (startD N_is_first_behind (ds.map Slot.im)) (Pr r) := by
  cases hR with
  | non => exact xss_ret (xe_or (xe_isN (xe_v C 2 rfl rfl rfl)) (by intro z; cases z) (fun _ => ⟨rfl, rfl⟩)) rfl rfl
  | some h1 h2 => exact xss_ret (xe_or (xe_isN (xe_v C 2 rfl rfl rfl)) (fun _ => (xe_one (xe_and (xe_notN (xe_v C 1 rfl rfl rfl)) (fun _ => (xe_one (xn (xe_call c_is_within hr (by decide) C 0 rfl (xa_cons (xe_v C 2 rfl rfl rfl) (xa_cons (xe_add (xe_v C 1 rfl rfl rfl) xe_int) (xa_cons (xe_sub (xe_v C 0 rfl rfl rfl) xe_int) xa_nil))) (argc_ds _ [_, _, _]) (within_t (by omega) (by omega)))))) (by intro z; cases z)))) (by intro z; cases z)) rfl rfl
theorem c_is_first_behind (D : Df K mg "is_first_behind" s_is_first_behind) (hg : Glb mg) (c_is_within : CalP P w K mg base 2 "is_within" (spD CS R_is_within)) : CalP P w K mg base 3 "is_first_behind" (spD CS R_is_first_behind) :=
  mkD D hg sc_is_first_behind ok_is_first_behind (by intro _ _ h; cases h <;> rfl) (fun X hX C hr ds r hR => b_is_first_behind C hr (hX.cal c_is_within) hR) (fun f fd F => F.binds fun _ _ _ _ _ _ us hl => match us, hl with | [_, _, _], _ => rfl)
inductive R_is_waits : List D → D → Prop
  | mk {m d : Nat} {ws : List Nat} : Asc ws m → d ∉ ws → R_is_waits [.int (m : Nat), .int (d : Nat), .tup (natsD ws)] (.bl true)
theorem int_mem {d : Nat} {ws : List Nat} : ((d : Nat) : Int) ∈ ws.map (fun i => ((i : Nat) : Int)) ↔ d ∈ ws := by
  rw [List.mem_map]
  constructor
  · rintro ⟨a, h, e⟩
    have : a = d := by omega
    exact this ▸ h
  · exact fun h => ⟨d, h, rfl⟩
theorem b_is_waits (C : Ctx X (defScope s_is_waits) N_is_waits V_is_waits V_is_waits G_is_waits) (hr : Room 3 X.A) (c_is_lot : CalX X 3 "is_lot" (spD CS R_is_lot)) {ds : List D} {r : D} (hR : R_is_waits ds r) :
    XSs X CS (defBody s_is_waits) (startD N_is_waits (ds.map Slot.im)) (Pr r) := by
  cases hR with
  | mk h1 h2 =>
    exact xss_ret (x := .bl true) (xe_and (xn (xe_call c_is_lot hr (by decide) C 0 rfl (xa_cons (xe_v C 2 rfl rfl rfl) (xa_cons (xe_v C 0 rfl rfl rfl) xa_nil)) (argc_ds _ [_, _]) ⟨_, _, rfl, h1, rfl⟩)) (fun _ => xe_one (xe_b (xe_notin (xe_v C 1 rfl rfl rfl) (xe_v C 2 rfl rfl rfl) (.inr rfl)) (by rw [decide_eq_false (fun z => h2 (int_mem.mp z))]; rfl))) (by intro z; cases z)) rfl rfl
theorem c_is_waits (D : Df K mg "is_waits" s_is_waits) (hg : Glb mg) (c_is_lot : CalP P w K mg base 3 "is_lot" (spD CS R_is_lot)) : CalP P w K mg base 4 "is_waits" (spD CS R_is_waits) :=
  mkD D hg sc_is_waits ok_is_waits (by intro _ _ h; cases h <;> rfl) (fun X hX C hr ds r hR => b_is_waits C hr (hX.cal c_is_lot) hR) (fun f fd F => F.binds fun _ _ _ _ _ _ us hl => match us, hl with | [_, _, _], _ => rfl)
inductive R_first_wrong : List D → D → Prop
  | mk {b h : Int} {dl : List Deed} : Ok b h dl → b ≤ 10 ^ 30 → R_first_wrong [.int h, .tup (encDs dl)] .non
theorem b_first_wrong (C : Ctx X (defScope s_first_wrong) N_first_wrong V_first_wrong V_first_wrong G_first_wrong) (hr : Room 4 X.A) (mc : Cst X.mg "MOST_CELLS" (10 ^ 30)) (c_is_triple : CalX X 1 "is_triple" (spD CS R_is_triple)) (c_is_first_behind : CalX X 3 "is_first_behind" (spD CS R_is_first_behind)) (c_is_number : CalX X 3 "is_number" (spD CS R_is_number)) (c_is_waits : CalX X 4 "is_waits" (spD CS R_is_waits)) {ds : List D} {r : D} (hR : R_first_wrong ds r) :
    XSs X CS (defBody s_first_wrong) (startD N_first_wrong (ds.map Slot.im)) (Pr r) := by
  cases hR with
  | @mk b h dl o hb =>
    refine xss_set C 2 rfl rfl (xe_neg xe_int) ?_ (lt_of rfl)
    refine xss_for C (xi_et C 0 rfl (xe_v C 1 rfl rfl rfl) rfl) (fun i δ => ∃ l x3 x4, δ = [some (.im (.int h)), some (.im (.tup (encDs dl))), some (.im (optD l)), x3, x4] ∧ (i = 0 → l = some (-1)) ∧ (∀ d, 0 < i → dl[i - 1]? = some d → l = d.first))
      (fun δ => ∃ x2 x3 x4, δ = [some (.im (.int h)), some (.im (.tup (encDs dl))), x2, x3, x4]) ⟨some (-1), none, none, rfl, fun _ => rfl, fun d z => absurd z (Nat.lt_irrefl 0)⟩ (fun i d δ hd hI => ?_) (fun δ ⟨l, x3, x4, e, _⟩ => ⟨_, x3, x4, e⟩) (fun δ ⟨x2, x3, x4, e⟩ => by subst e; exact xss_ret xe_non rfl rfl)
    obtain ⟨l, x3, x4, rfl, hl0, hl1⟩ := hI
    obtain ⟨d', hd', rfl⟩ := enumD_of hd
    obtain ⟨d, hdd, rfl⟩ := encDs_of hd'
    have hm := List.mem_of_getElem? hdd
    have hfirst : R_is_first_behind [.int h, optD l, optD d.first] (.bl true) := by
      cases q : d.first with
      | none => exact .non
      | some t =>
        obtain ⟨g1, g2⟩ := o.fst d hm t q
        by_cases hi : i = 0
        · rw [hl0 hi]
          exact .some (by omega) g2
        · have hlt : i - 1 < dl.length := by
            have := (List.getElem?_eq_some_iff.mp hdd).1
            omega
          have hp : dl[i - 1]? = some dl[i - 1] := by simp [hlt]
          rcases o.elder hp hdd (by omega) with z | ⟨x, y, z1, z2, z3⟩
          · rw [z] at q
            cases q
          · rw [q] at z2
            cases z2
            rw [hl1 _ (by omega) hp, z1]
            exact .some z3 g2
    refine ⟨_, _, (xg_t C (xgs_cons (xg_n C 3 rfl rfl (lt_of rfl)) (xgs_cons (xg_n C 4 rfl rfl (lt_of rfl)) xgs_nil)) rfl), ?_⟩
    refine xss_if0 (xw (xw_or (xt_not (xt_v (xn (xe_call c_is_triple hr (by decide) C 1 rfl (xa_cons (xe_v C 4 rfl rfl rfl) xa_nil) (argc_ds _ [_]) ⟨_, _, _, rfl, rfl⟩)))) (fun _ => (xw_or1 (xt_not (xt_v (xn (xe_call c_is_first_behind hr (by decide) C 2 rfl (xa_cons (xe_v C 0 rfl rfl rfl) (xa_cons (xe_v C 2 rfl rfl rfl) (xa_cons (xe_ixT (xe_v C 4 rfl rfl rfl) xe_int rfl rfl) xa_nil))) (argc_ds _ [_, _, _]) hfirst)))))) (by intro z; cases z))) (by intro z; cases z) (fun _ => ?_)
    refine xss_if0 (xw (xw_or (xt_not (xt_v (xn (xe_call c_is_number hr (by decide) C 3 rfl (xa_cons (xe_ixT (xe_v C 4 rfl rfl rfl) xe_int rfl rfl) (xa_cons (xe_gi C mc 4 rfl) xa_nil)) (argc_ds _ [_, _]) ⟨_, _, rfl, (o.need d hm).1, Int.le_trans (o.need d hm).2 hb, rfl⟩)))) (fun _ => (xw_or1 (xt_not (xt_v (xn (xe_call c_is_waits hr (by decide) C 5 rfl (xa_cons (xe_len C 6 rfl (xe_v C 1 rfl rfl rfl) (.inr rfl)) (xa_cons (xe_v C 3 rfl rfl rfl) (xa_cons (xe_ixT (xe_v C 4 rfl rfl rfl) xe_int rfl rfl) xa_nil))) (argc_ds _ [_, _, _]) (by rw [encDs_len]; exact .mk (o.wt i d hdd) (o.nself hdd)))))))) (by intro z; cases z))) (by intro z; cases z) (fun _ => ?_)
    refine xss_set C 2 rfl rfl (xe_ixT (xe_v C 4 rfl rfl rfl) xe_int rfl rfl) (xss_nil ⟨d.first, _, _, rfl, (by intro z; cases z), fun d2 _ e => ?_⟩) (lt_of rfl)
    rw [Nat.add_sub_cancel, hdd] at e
    cases e
    rfl
theorem c_first_wrong (D : Df K mg "first_wrong" s_first_wrong) (hg : Glb mg) (mc : Cst mg "MOST_CELLS" (10 ^ 30)) (c_is_triple : CalP P w K mg base 1 "is_triple" (spD CS R_is_triple)) (c_is_first_behind : CalP P w K mg base 3 "is_first_behind" (spD CS R_is_first_behind)) (c_is_number : CalP P w K mg base 3 "is_number" (spD CS R_is_number)) (c_is_waits : CalP P w K mg base 4 "is_waits" (spD CS R_is_waits)) : CalP P w K mg base 5 "first_wrong" (spD CS R_first_wrong) :=
  mkD D hg sc_first_wrong ok_first_wrong (by intro _ _ h; cases h <;> rfl) (fun X hX C hr ds r hR => b_first_wrong C hr (by rw [hX.m]; exact mc) (hX.cal c_is_triple) (hX.cal c_is_first_behind) (hX.cal c_is_number) (hX.cal c_is_waits) hR) (fun f fd F => F.binds fun _ _ _ _ _ _ us hl => match us, hl with | [_, _], _ => rfl)
inductive R_first_in_ring : List D → D → Prop
  | mk {ws : List (List Nat)} : WfW ws → Acyc ws → (∀ l ∈ ws, l.Nodup) → ws.length ≤ 60 → R_first_in_ring [.lst (encW ws)] .non
theorem b_first_in_ring (C : Ctx X (defScope s_first_in_ring) N_first_in_ring V_first_in_ring V_first_in_ring G_first_in_ring) (hr : Room 2 X.A) (c_waited_for : CalX X 2 "waited_for" (spD CS R_waited_for)) {ds : List D} {r : D} (hR : R_first_in_ring ds r) :
    XSs X CS (defBody s_first_in_ring) (startD N_first_in_ring (ds.map Slot.im)) (Pr r) := by
  cases hR with
  | @mk ws h1 h2 h3 h4 =>
    refine xss_for C (xi_el C 0 rfl (xe_v C 0 rfl rfl rfl) rfl) (fun i δ => ∃ x1 x2, δ = [some (.im (.lst (encW ws))), x1, x2]) (fun δ => ∃ x1 x2, δ = [some (.im (.lst (encW ws))), x1, x2]) ⟨none, none, rfl⟩ (fun i d δ hd hI => ?_) (fun δ h => h) (fun δ ⟨x1, x2, e⟩ => by subst e; exact xss_ret xe_non rfl rfl)
    obtain ⟨x1, x2, rfl⟩ := hI
    obtain ⟨d', hd', rfl⟩ := enumD_of hd
    obtain ⟨l, hl, rfl⟩ : ∃ l, ws[i]? = some l ∧ d' = .tup (natsD l) := by
      unfold encW at hd'
      rw [List.getElem?_map] at hd'
      cases q : ws[i]? with
      | none => rw [q] at hd'; cases hd'
      | some d => rw [q] at hd'; exact ⟨d, rfl, (Option.some.inj hd').symm⟩
    have hll : ∀ x ∈ l, x < ws.length := h1 i l hl
    refine ⟨_, _, (xg_t C (xgs_cons (xg_n C 1 rfl rfl (lt_of rfl)) (xgs_cons (xg_n C 2 rfl rfl (lt_of rfl)) xgs_nil)) rfl), ?_⟩
    refine xss_if0 (xt_b (q := decide_eq_false (fun z => h2.no hl ((mem_clo h1 hll i).mp (int_mem.mp z)))) (xt_in (xe_v C 1 rfl rfl rfl) (xn (xe_call c_waited_for hr (by decide) C 1 rfl (xa_cons (xe_v C 0 rfl rfl rfl) (xa_cons (xe_v C 2 rfl rfl rfl) xa_nil)) (argc_ds _ [_, _]) ⟨ws, l, rfl, h1, hll, h3 l (List.mem_of_getElem? hl), h4, rfl⟩)) (.inr rfl))) (by intro z; cases z) (fun _ => xss_nil ⟨_, _, rfl⟩)
theorem c_first_in_ring (D : Df K mg "first_in_ring" s_first_in_ring) (hg : Glb mg) (c_waited_for : CalP P w K mg base 2 "waited_for" (spD CS R_waited_for)) : CalP P w K mg base 3 "first_in_ring" (spD CS R_first_in_ring) :=
  mkD D hg sc_first_in_ring ok_first_in_ring (by intro _ _ h; cases h <;> rfl) (fun X hX C hr ds r hR => b_first_in_ring C hr (hX.cal c_waited_for) hR) (fun f fd F => F.binds fun _ _ _ _ _ _ us hl => match us, hl with | [_], _ => rfl)
abbrev used := used0
inductive R_is_too_far : List D → D → Prop
  | mk {c h : Int} {dl : List Deed} : used h dl ≤ c → R_is_too_far [.int c, .int h, .tup (encDs dl)] (.bl false)
theorem b_is_too_far (C : Ctx X (defScope s_is_too_far) N_is_too_far V_is_too_far V_is_too_far G_is_too_far) (hr : Room 0 X.A) {ds : List D} {r : D} (hR : R_is_too_far ds r) :
    XSs X CS (defBody s_is_too_far) (startD N_is_too_far (ds.map Slot.im)) (Pr r) := by
  cases hR with
  | @mk c h dl hu =>
    cases dl with
    | nil => exact xss_ret (x := .bl false) (xe_and (xe_gt (xe_len C 0 rfl (xe_v C 2 rfl rfl rfl) (.inr rfl)) xe_int) (by intro z; cases z) (fun _ => ⟨rfl, rfl⟩)) rfl rfl
    | cons d dl =>
      have h0 : L2.atI (encDs (d :: dl)) 0 = some d.enc := atI_nat (j := 0) rfl
      have h1 : L2.atI [optD d.first, .int d.need, .tup (natsD d.waits)] 0 = some (optD d.first) := rfl
      refine xss_ret (x := .bl false) (δ1 := startD N_is_too_far ([.int c, .int h, .tup (encDs (d :: dl))].map Slot.im)) (xe_and (p := true) (xe_b (xe_gt (xe_len C 0 rfl (xe_v C 2 rfl rfl rfl) (.inr rfl)) xe_int) (decide_eq_true (by simp [encDs] <;> omega))) (fun _ => ?_) (by intro z; cases z)) rfl rfl
      cases q : d.first with
      | none =>
        refine xe_and (xe_b (xe_notN (xe_ixT (xe_ixT (xe_v C 2 rfl rfl rfl) xe_int rfl h0) xe_int rfl h1)) (by rw [q])) (by intro z; cases z) (fun _ => ⟨rfl, rfl⟩)
      | some f =>
        have hle : h - f ≤ c := by
          have : used h (d :: dl) = h - f := by simp [used, used0, q]
          omega
        exact xe_and (p := true) (xe_b (xe_notN (xe_ixT (xe_ixT (xe_v C 2 rfl rfl rfl) xe_int rfl h0) xe_int rfl h1)) (by rw [q]; rfl)) (fun _ => xe_one (xe_b (xe_gt (xe_sub (xe_v C 1 rfl rfl rfl) (xe_to (y := .int f) (xe_ixT (xe_ixT (xe_v C 2 rfl rfl rfl) xe_int rfl h0) xe_int rfl h1) (by rw [q]; rfl))) (xe_v C 0 rfl rfl rfl)) (decide_eq_false (by omega)))) (by intro z; cases z)
theorem c_is_too_far (D : Df K mg "is_too_far" s_is_too_far) (hg : Glb mg) : CalP P w K mg base 1 "is_too_far" (spD CS R_is_too_far) :=
  mkD D hg sc_is_too_far ok_is_too_far (by intro _ _ h; cases h <;> rfl) (fun X hX C hr ds r hR => b_is_too_far C hr hR) (fun f fd F => F.binds fun _ _ _ _ _ _ us hl => match us, hl with | [_, _, _], _ => rfl)
end K06
/-! K12: one's own objects: made, their fields written, given out. -/
namespace K06
open PySem PySem.Spec L2
variable {P : Program} {w : World} {K : PySem.W.Frag} {mg : Str → Option Value} {base : Heap} {CS : Addr} {X : Cx}
variable {sc : Scope} {N : List Str} {vs ls : List Nat} {gs : List Str}
/-- a field put -/
def putD (f : Str) (d : D) : List (Str × D) → List (Str × D)
  | [] => [(f, d)]
  | (g, x) :: r => if g = f then (g, d) :: r else (g, x) :: putD f d r
theorem putD_rep {H : Hp} {A : AP1} {f : Str} {d : D} {v : V} (hd : Rep CS H A d v) : ∀ {fs : List (Str × D)} {fv : List (Str × V)}, fv.map (·.1) = fs.map (·.1) → Reps CS H A (fs.map (·.2)) (fv.map (·.2)) →
    (putF f v fv).map (·.1) = (putD f d fs).map (·.1) ∧ Reps CS H A ((putD f d fs).map (·.2)) ((putF f v fv).map (·.2))
  | [], [], _, _ => ⟨rfl, v, [], rfl, hd, rfl⟩
  | [], _ :: _, e, _ => by cases e
  | _ :: _, [], e, _ => by cases e
  | (g, x) :: fs, (g', y) :: fv, e, h => by
    obtain ⟨e1, e2⟩ := List.cons.inj e
    have e1' : g' = g := e1
    subst e1'
    obtain ⟨v0, r0, z1, z2, z3⟩ := h
    obtain ⟨rfl, rfl⟩ := List.cons.inj z1
    unfold putF putD
    by_cases q : g' = f
    · rw [if_pos q, if_pos q]
      exact ⟨by simpa using e2, v, _, rfl, hd, z3⟩
    · rw [if_neg q, if_neg q]
      obtain ⟨i1, i2⟩ := putD_rep hd e2 z3
      exact ⟨by simpa using i1, y, _, rfl, z2, i2⟩
theorem putD_lf {f : Str} {d : D} (hd : LF d = true) : ∀ {fs : List (Str × D)}, LFs (fs.map (·.2)) = true → LFs ((putD f d fs).map (·.2)) = true
  | [], _ => by simp [putD, LFs, hd]
  | (g, x) :: fs, h => by
    have h1 : LF x = true ∧ LFs (fs.map (·.2)) = true := by simpa [LFs] using h
    unfold putD
    by_cases q : g = f
    · rw [if_pos q]
      simp [LFs, hd, h1.2]
    · rw [if_neg q]
      simp [LFs, h1.1, putD_lf hd h1.2]
section
variable {e : Expr} {es : List Expr} {rest : List Stmt} {P' : Post} {δ δ1 : Sto} {x : D} {f nm : Str} {l : Addr} {k : Nat} {fs : List (Str × D)} {pos p2 pos' : Pos}
/-- name.f = data, name one's own object -/
theorem xss_fld (S : StdC X.K CS) (na : NoAttr X.K CS f) (C : Ctx X sc N vs ls gs) (k : Nat) (hi : N[k]? = some nm) (hv : vs.contains k = true) (he : XE X CS e δ (.d x) δ1) (hk1 : δ1[k]? = some (some (.ob l fs))) (lx : LF x = true) (hz : fs.length < 1000)
    (h2 : XSs X CS rest (δ1.set k (some (.ob l (putD f x fs)))) P') (hs : swapsWith e (some (.Attribute (.Name nm p2) f pos')) pos.line X.env = pure false := by rfl) : XSs X CS (.Assign [.Attribute (.Name nm p2) f pos'] e pos :: rest) δ P' :=
  pss_weak (pss_cons (ps_fld (xe_m (CS := CS) C k hi hv hk1 rfl) he hs) h2) fun D σ H ⟨A, B, s, kk⟩ => ⟨A, B, s, fun v H1 e1 s1 q1 => ⟨A, B, s1, fun u H2 e2 s2 q2 => by
    have eu : u = .ref l := q2
    subst eu
    obtain ⟨v', g1, g2, gA, lf, dx, fv, g3, g4, g5⟩ := s2.sl k _ hk1
    refine ⟨l, CS, dx, fv, rfl, g3, S.cl, na, by rw [← List.length_map (f := (·.1)), g4, List.length_map]; exact hz, ?_⟩
    have rx : Rep CS H2 (Un2 A B) x v := Rep.ext e2 x v q1
    obtain ⟨i1, i2⟩ := putD_rep (f := f) rx g4 g5
    have st : Stay (Un2 A B) H2 (upd H2 l (.ins CS dx (putF f v fv))) := stay_upd (.inl (.inl gA)) (by rw [g3]; trivial)
    have x1 : Ext A B H2 A (upd H2 l (.ins CS dx (putF f v fv))) := Ext.upd (.inl gA) (by rw [g3]; trivial)
    have x2 : SR CS A B σ (upd H2 l (.ins CS dx (putF f v fv))) (δ1.set k (some (.ob l (putD f x fs)))) :=
      s2.write (s' := .ob l (putD f x fs)) (l := l) hk1 rfl rfl g1 (.inl (.inl gA)) trivial ⟨g2, gA, putD_lf lx lf, dx, _, upd_same, i1, Reps.stay st _ _ i2⟩
    exact tS_step (P := P') ((e1.trans e2).trans x1) x2 kk⟩⟩
/-- name = a new standing, from now on one's own -/
theorem xss_setO {cc hh : Int} {ds : List D} {p' : Pos} (C : Ctx X sc N vs ls gs) (k : Nat) (hi : N[k]? = some nm) (hl : ls.contains k = true) (h : XE X CS e δ (.n (.std cc hh ds)) δ1) (f : LFs ds = true) (h2 : ∀ l, XSs X CS rest (δ1.set k (some (.ob l [("cells", .int cc), ("head", .int hh), ("deeds", .tup ds)]))) P') (hlen : k < δ1.length) (cg : Cng δ δ1 := by exact Cng.refl)
    (hs : swapsWith e (some (.Name nm p')) pos.line X.env = pure false := by rfl) : XSs X CS (.Assign [.Name nm p'] e pos :: rest) δ P' := by
  obtain ⟨l1, l2⟩ := C.loc k nm hl hi
  exact pss_weak (pss_cons (ps_set (i := k) (by rw [C.hN]; exact C.nd) (by rw [C.hN]; exact hi) l1 h hs l2) (pss_ex (ι := Addr) (p := fun _ => True) fun l _ => h2 l)) fun D σ H ⟨A, B, s, kk⟩ =>
    ⟨A, B, s, fun v H1 e1 s1 q1 => by
      obtain ⟨l, dx, t, us, ev, nl, h1, ht, h3⟩ := q1
      subst ev
      have hH : H l = none := by
        cases q : H l with
        | none => rfl
        | some o => exact absurd (show H l ≠ none by rw [q]; simp) nl
      have lft : LF (.tup ds) = true := f
      obtain ⟨x1, x2⟩ := SR.bind (t := .ob l [("cells", .int cc), ("head", .int hh), ("deeds", .tup ds)]) s s1 e1 cg hH (by rw [h1]; trivial) hlen rfl
        ⟨rfl, .inr rfl, by simp [LFs, LF, f], dx, _, h1, rfl, .int cc, _, rfl, rfl, .int hh, _, rfl, rfl, .ref t, _, rfl, ⟨t, us, rfl, ht, Reps.lf _ _ f h3⟩, rfl⟩
      exact ⟨l, trivial, tS_step (P := P') x1 x2 kk⟩⟩
theorem std_of {H : Hp} {A : AP1} {fv : List (Str × V)} {cc hh : Int} {ds : List D} (h2 : fv.map (·.1) = ([("cells", .int cc), ("head", .int hh), ("deeds", .tup ds)] : List (Str × D)).map (·.1)) (h3 : Reps CS H A (([("cells", .int cc), ("head", .int hh), ("deeds", .tup ds)] : List (Str × D)).map (·.2)) (fv.map (·.2))) :
    ∃ t us, fv = stdF cc hh t ∧ H t = some (.tup us) ∧ Reps CS H A ds us := by
  obtain ⟨v1, r1, z1, z2, v2, r2, z3, z4, v3, r3, z5, z6, z7⟩ := h3
  obtain ⟨t, us, y1, y2, y3⟩ := z6
  refine ⟨t, us, ?_, y2, y3⟩
  have z2' : v1 = .int cc := z2
  have z4' : v2 = .int hh := z4
  subst z2'; subst z4'; subst y1; subst z7; subst z5; subst z3
  match fv, h2, z1 with
  | [(a, b), (c, d), (e, g)], h2, z1 =>
    simp only [List.map_cons, List.map_nil, List.cons.injEq, and_true] at h2 z1
    obtain ⟨rfl, rfl, rfl⟩ := h2
    obtain ⟨rfl, rfl, rfl⟩ := z1
    rfl
/-- an object of one's own is given out -/
theorem xss_reto {cc hh : Int} {ds : List D} (h : XE X CS e δ (.m l) δ1) (hk : δ1[k]? = some (some (.ob l [("cells", .int cc), ("head", .int hh), ("deeds", .tup ds)]))) (hp : P'.rt δ1 (.std cc hh ds)) : XSs X CS (.Return (some e) pos :: rest) δ P' :=
  pss_weak (pss_cons (ps_ret h) pss_never) fun D σ H ⟨A, B, s, kk⟩ => ⟨A, B, s, fun v H1 e1 s1 q1 => by
    obtain ⟨w, _, e2, hA, lf, dx, fv, h1, h2, h3⟩ := s1.sl k _ hk
    have ev : v = .ref l := q1
    obtain ⟨t, us, e3, y2, y3⟩ := std_of h2 h3
    have lds : LFs ds = true := by simpa [LFs, LF] using lf
    refine kk.2.1 σ H1 A δ1 _ v hp e1 s1 ⟨l, dx, t, us, ev, fun z => z.2 hA, by rw [h1, e3], y2, Reps.lf _ _ lds y3⟩⟩
end

/-! ### a standing is made -/
/-- __init__'s promise -/
def spI (CS : Addr) (R : Int → Int → List D → Prop) : Sp := fun vs H Q _ => ∃ x dx c h ds t, R c h ds ∧ LFs ds = true ∧ vs = [.ref x, .int c, .int h, .ref t] ∧ H x = some (.ins CS dx []) ∧ Rep CS H (fun _ => False) (.tup ds) (.ref t) ∧
  ∀ H' dx' t' us, (∀ a o, a ≠ x → H a = some o → H' a = some o) → H' x = some (.ins CS dx' (stdF c h t')) → H' t' = some (.tup us) → Reps CS H' (fun _ => False) ds us → Q .non H'
structure MakP (P : Program) (w : World) (K : PySem.W.Frag) (mg : Str → Option Value) (base : Heap) (CS : Addr) (k : Nat) (nm : Str) (R : Int → Int → List D → Prop) : Prop where
  ex : ∃ (f : Addr) (fd : FuncData) (ps : List Str), FnOk P w K mg base CX0 k f fd ps (spI CS R) ∧ mg nm = some (.ref CS) ∧ Mk K CS f ∧ Binds K fd ps []
theorem CxI.mak (h : CxI P w K mg base X) {k : Nat} {nm : Str} {R : Int → Int → List D → Prop} (c : MakP P w K mg base CS k nm R) : MakP X.prog X.w X.K X.mg X.base CS k nm R := by
  obtain ⟨rfl, rfl, rfl, rfl, rfl⟩ := h
  exact c
theorem xe_make {e : Expr} {es : List Expr} {pos p2 : Pos} {δ δ1 : Sto} {k kc : Nat} {nm : Str} {R : Int → Int → List D → Prop} {cc hh : Int} {ds : List D} (c : MakP X.prog X.w X.K X.mg X.base CS kc nm R) (hr : Room (k + 1) X.A) (hk : kc ≤ k) (C : Ctx X sc N vs ls gs) (j : Nat) (hj : gs[j]? = some nm)
    (ha : XA X CS (e :: es) δ [.d (.int cc), .d (.int hh), .d (.tup ds)] δ1) (hR : R cc hh ds) (lf : LFs ds = true) (he : starEach (e :: es) X.env = (false, eval e X.env) :: starEach es X.env := by rfl) (hpl : (backTo pos (starEach es X.env)).any (·.1) = false := by rfl) :
    XE X CS (.Call (.Name nm p2) (e :: es) [] pos) δ (.n (.std cc hh ds)) δ1 := by
  obtain ⟨f, fd, ps, F, hm, M, hb⟩ := c.ex
  obtain ⟨g1, g2⟩ := C.gl j nm hj
  refine pe_weak (pe_make M F (hr.mono (Nat.succ_le_succ hk)) g1 hm hb .nil pass0 ha g2 he hpl) fun σ H Q ⟨A, B, s, kk⟩ => ⟨A, B, s, fun ws H1 e1 s1 q1 x dx hx hdx nx => ?_⟩
  obtain ⟨v1, v2, v3, rfl, q2, q3, q4⟩ := RRs.three q1
  have e2 : v1 = .int cc := q2
  have e3 : v2 = .int hh := q3
  subst e2; subst e3
  obtain ⟨t, us, rfl, ht, hus⟩ := q4
  have smA : Same H1 (upd (upd H1 dx (.own x)) x (.ins CS dx [])) := fun a o z => by
    have n1 : a ≠ x := fun y => by rw [y, hx] at z; cases z
    have n2 : a ≠ dx := fun y => by rw [y, hdx] at z; cases z
    rw [upd_ne n1, upd_ne n2]
    exact z
  refine ⟨x, dx, cc, hh, ds, t, hR, lf, rfl, upd_same, ?_, fun H2 dx' t' us' sm hx2 ht' hus' => ⟨rfl, ?_⟩⟩
  · exact ⟨t, us, rfl, smA _ _ ht, Reps.lf _ _ lf (Reps.stay (Same.stay smA) _ _ (Reps.lf (A' := Un2 A B) _ _ lf hus))⟩
  · have sm2 : Same H1 H2 := fun a o z => by
      have n1 : a ≠ x := fun y => by rw [y, hx] at z; cases z
      exact sm a o n1 (smA a o z)
    have nH : H x = none := by
      cases q : H x with
      | none => rfl
      | some o => exact absurd hx (e1.there x (by rw [q]; simp))
    exact kk _ H2 (e1.trans (Same.ext sm2)) (s1.same sm2) ⟨x, dx', t', us', rfl, fun z => z nH, hx2, ht', Reps.lf _ _ lf hus'⟩
/-- __init__ keeps its promise -/
theorem mkI {st : Stmt} {N ps gs : List Str} {vs ls : List Nat} {k : Nat} {R : Int → Int → List D → Prop} {f : Addr} {fd : FuncData} {nm qual : Str} (F : L2.Fun K nm qual st f fd) (hg : Glb mg) (S : FnScope N ps (defScope st)) (ok : scOk N vs ls gs (defScope st) = true) (len : ps.length = 4)
    (b : ∀ X, CxI P w K mg base X → Ctx X (defScope st) N vs ls gs → Room k X.A → ∀ x c h ds, R c h ds → XSs X CS (defBody st) (startD N [.ob x [], .im (.int c), .im (.int h), .im (.tup ds)])
      { nx := fun δ => ∃ r, δ = some (.ob x [("cells", .int c), ("head", .int h), ("deeds", .tup ds)]) :: some (.im (.int c)) :: some (.im (.int h)) :: some (.im (.tup ds)) :: r, rt := fun _ _ => False }) :
    FnOk P w K mg base CX0 (k + 1) f fd ps (spI CS R) := by
  refine F.ok S (fun vs H Q E h => ?_) (fun cdv A outer s H vs Q E hr h => ?_)
  · obtain ⟨x, dx, c, h', ds, t, hR, lf, rfl, _⟩ := h
    rw [len]
    rfl
  · obtain ⟨x, dx, c, hh, ds, t, hR, lf, rfl, hx, ht, q⟩ := h
    obtain ⟨t', us, et, ht1, ht2⟩ := ht
    cases et
    refine ⟨_, b _ ⟨rfl, rfl, rfl, rfl, rfl⟩ (Ctx.body ok S.nd hg) hr x c hh ds hR, fun a => a = x, ⟨fun _ => False, fun _ => False, []⟩, ?_, ?_, ?_, fun _ _ _ _ z => z.elim, fun _ _ _ _ z => z.elim⟩
    · refine start_sr Tbs.nil rfl (fun a z => ?_) (fun i u v e ev => ?_) fun i j u u' l e e' a a' => ?_
      · rcases z with (z | z) | z
        · have z' : a = x := z
          rw [z', hx]
          trivial
        · exact z.elim
        · exact z.elim
      · match i with
        | 0 =>
          cases e
          cases ev
          exact ⟨rfl, rfl, rfl, dx, [], hx, rfl, rfl⟩
        | 1 => cases e; cases ev; rfl
        | 2 => cases e; cases ev; rfl
        | 3 =>
          cases e
          cases ev
          exact ⟨t, us, rfl, ht1, Reps.lf _ _ lf ht2⟩
        | i + 4 => simp at e
      · match i, j with
        | 0, 0 => rfl
        | 1, _ => cases e; cases a
        | 2, _ => cases e; cases a
        | 3, _ => cases e; cases a
        | i + 4, _ => simp at e
        | _, 1 => cases e'; cases a'
        | _, 2 => cases e'; cases a'
        | _, 3 => cases e'; cases a'
        | _, j + 4 => simp at e'
    · intro σ' H' A' δ' p e s'
      obtain ⟨r, rfl⟩ := p
      obtain ⟨v0, f0, f1, fA, flf, dx', fv, f2, f3, f4⟩ := s'.sl 0 _ rfl
      obtain ⟨t', us', e3, y2, y3⟩ := std_of f3 f4
      exact q H' dx' t' us' (fun a o n z => e.out' a o (fun y => by rcases y with y | y; exact n y; exact y) (.inl rfl) z) (by rw [f2, e3]) y2 (Reps.lf _ _ lf y3)
    · intro σ' H' A' δ' d v pp e s' rp
      exact pp.elim
end K06
/-! K13: remove, index, sorted of tuples and of pairs, a written dict's get, a dict display of defs, a held def's call. -/
namespace K06
open PySem PySem.Spec L2
/-- sorted(xs), xs a tuple of ints -/
def rSortedTI (K : PySem.W.Frag) : List V → Hp → VK → Prop := fun vs H Q => ∃ (a : Addr) (ns : List Int), vs = [V.ref a] ∧ SqT K H a (ns.map V.int) ∧ ns.length < 64 ∧
  ∀ (ys : List Int) (p : Addr), ys.Perm ns → ys.Pairwise (· ≤ ·) → H p = none → Q (.ref p) (upd H p (.lst (ys.map V.int)))
theorem cr_sortedTI {X : Cx} : CallR X (.builtin "sorted") (rSortedTI X.K) := by
  intro pins s σ H vs us Q I r h
  obtain ⟨a, ns, rfl, hs, h64, q⟩ := h
  obtain ⟨its, rv, hl, hz⟩ := I.tuple hs
  rw [Vals.ref1 r]
  have hi : PyProof.Rows.IntsAre its ns := rv.ints
  have hil : its.length = ns.length := hi.length
  obtain ⟨o, ho, hc, n, hd⟩ := hl
  have hsz := sizeLine_eq
  refine Calls.call_function_entry PyProof.Rows.kind_sorted PyProof.Rows.plain_sorted PyProof.Rows.entry_sorted (PyProof.Rows.args_sorted1 _) ?_
  unfold Builtin.«sorted»
  refine wpAny_bind (m := checkCount "sorted" 1 1 _) (wpAny_pure ?_)
  refine wpAny_bind (wpAny_collect_seq a (.inr rfl) ho hc hd (fun h' hk => ?_) (by simp only [List.size_toArray]; omega))
  have I1 : Inv X pins σ H { s with heap := h' } := I.kept (t' := s.toks) hk
  refine wpAny_bind (wpAny_newList ?_ (by simp only [List.toList_toArray]; omega))
  have hoL : (h'.push (PyProof.Rows.seqObj "list" its.toArray 0)).get? h'.objs.size = some (PyProof.Rows.seqObj "list" its.toArray 0) := Heap.get?_push_size _ rfl
  show wpAny _ _ _ _ _ { s with heap := h'.push (PyProof.Rows.seqObj "list" its.toArray 0) }
  refine wpAny_bind (wpAny_holding (wpAny_call_entry PyProof.Rows.slot_list_sort ⟨_, hoL, rfl⟩ PyProof.Rows.entry_list_sort
    (PyProof.Rows.list_sort_tree (s := { s with heap := h'.push (PyProof.Rows.seqObj "list" its.toArray 0) }) hoL hi (by rw [hil]; exact h64) fun out ys g1 g2 g3 => ⟨_, rfl, ?_⟩) (PyProof.Rows.args_list_sort _)))
  obtain ⟨e', he'⟩ := PyProof.Rows.sortedHeap_at (vs := its) (out := out) hoL
  have hlen : (ys.map V.int).length ≤ sizeLine := by
    rw [List.length_map, g2.length_eq]
    exact Nat.le_trans (Nat.le_of_lt h64) (by decide)
  refine wpAny_pure ⟨_, rfl, .ref h'.objs.size, upd H h'.objs.size (.lst (ys.map V.int)), I1.laid (t' := s.toks) (fun b u e => ?_) (Nat.le_refl _)
    (show ObjOk X.prog X.w _ _ _ (.lst (ys.map V.int)) from ⟨hlen, out.toList, e', vals_of_ints g1, by rw [Array.toArray_toList]; exact he'⟩), rfl, q ys _ g2 g3 (I1.hok.fresh (Nat.le_refl _))⟩
  have hb : b < h'.objs.size := Heap.lt_size e
  rw [PyProof.Rows.sortedHeap_old (Nat.ne_of_lt hb) (by rw [PyProof.Rows.size_push']; exact Nat.lt_succ_of_lt hb)]
  exact Heap.get?_push_of_some _ e
section
variable {X : Cx} {CS : Addr} {sc : Scope} {N : List Str} {vs ls : List Nat} {gs : List Str} {a b e f : Expr} {es : List Expr} {rest : List Stmt} {P' : Post} {δ δ1 δ2 δ3 : Sto} {r : Res} {rs : List Res} {x : D} {ds : List D} {nm : Str} {l : Addr} {k : Nat} {i j : Int} {pos p2 p3 p4 pos' ap cp : Pos}
theorem xe_sortedT {ns ms : List Int} (C : Ctx X sc N vs ls gs) (k : Nat) (hk : gs[k]? = some "sorted") (ha : XE X CS a δ r δ1) (hc : TupC r (ns.map D.int)) (h64 : ns.length < 64) (h1 : ms.Perm ns) (h2 : ms.Pairwise (· ≤ ·)) (hs : starEach [a] X.env = (false, eval a X.env) :: starEach [] X.env := by rfl) :
    XE X CS (.Call (.Name "sorted" p2) [a] [] pos) δ (.n (.lst (ms.map D.int))) δ1 :=
  xe_callB C k hk cr_sortedTI C.glb.sorted (by decide +kernel) (xa_cons ha xa_nil hs) (fun A B σ H0 H ws Q s t q kk => by
    obtain ⟨v, e, q1⟩ := RRs.one q
    obtain ⟨p, us, e2, g1, g2⟩ := hc.at' t q1
    have e3 := g2.ints
    subst e3
    refine ⟨p, ns, by rw [e, e2], SqT.of g1, h64, fun ns' n z1 z2 hn => kk _ _ (same_new hn) ?_⟩
    have e4 : ns' = ms := List.Perm.eq_of_pairwise (le := fun a b : Int => a ≤ b) (fun _ _ _ _ p q => Int.le_antisymm p q) z2 h2 (z1.trans h1.symm)
    rw [e4]
    exact rr_newL (A' := Un2 A B) hn (LFs_ints _) (Reps.of_ints _)) (he := hs)
/-- pairs of ints, by their first, then by their second -/
def pairD (p : Int × Int) : D := .tup [.int p.1, .int p.2]
def LeP (p q : Int × Int) : Prop := p.1 < q.1 ∨ (p.1 = q.1 ∧ p.2 ≤ q.2)
theorem lf_pairs (ps : List (Int × Int)) : LFs (ps.map pairD) = true := LFs_map (fun _ => rfl) ps
open Classical in
theorem xe_sortedP {ps qs : List (Int × Int)} (C : Ctx X sc N vs ls gs) (k : Nat) (hk : gs[k]? = some "sorted") (ha : XE X CS a δ r δ1) (hc : LstC δ1 r (ps.map pairD)) (h1 : qs.Perm ps) (h2 : qs.Pairwise LeP) (hs : starEach [a] X.env = (false, eval a X.env) :: starEach [] X.env := by rfl) :
    XE X CS (.Call (.Name "sorted" p2) [a] [] pos) δ (.n (.lst (qs.map pairD))) δ1 :=
  xe_callB C k hk cr_sortedPO C.glb.sorted (by decide +kernel) (xa_cons ha xa_nil hs) (fun A B σ H0 H ws Q s t q kk => by
    obtain ⟨v, e, q1⟩ := RRs.one q
    obtain ⟨p, us, e2, g1, g2⟩ := hc.at' t s q1
    let K0 : V → Int × Int := fun v => if h : ∃ (z : Int × Int) (t : Addr), v = .ref t ∧ H t = some (.tup [.int z.1, .int z.2]) then h.choose else (0, 0)
    have hK : ∀ (z : Int × Int) (u : V), Rep CS H (Un2 A B) (pairD z) u → K0 u = z ∧ ∃ t, u = .ref t ∧ H t = some (.tup [.int z.1, .int z.2]) := fun z u hu => by
      obtain ⟨t, vs, rfl, ht, w1, r1, rfl, y1, w2, r2, rfl, y2, rfl⟩ := hu
      have y1' : w1 = .int z.1 := y1
      have y2' : w2 = .int z.2 := y2
      subst y1'; subst y2'
      have ex : ∃ (z' : Int × Int) (t' : Addr), V.ref t = .ref t' ∧ H t' = some (.tup [.int z'.1, .int z'.2]) := ⟨z, t, rfl, ht⟩
      refine ⟨?_, t, rfl, ht⟩
      show (if h : _ then _ else _) = z
      rw [dif_pos ex]
      obtain ⟨t', e1, e2⟩ := ex.choose_spec
      cases e1
      rw [ht] at e2
      have e3 := HO.tup.inj (Option.some.inj e2)
      simp only [List.cons.injEq, V.int.injEq, and_true] at e3
      exact (Prod.ext e3.1 e3.2).symm
    have hmap : ∀ (zs : List (Int × Int)) (us : List V), Reps CS H (Un2 A B) (zs.map pairD) us → us.map K0 = zs ∧ ∀ u ∈ us, ∃ t, u = .ref t ∧ H t = some (.tup [.int (K0 u).1, .int (K0 u).2]) := fun zs => by
      induction zs with
      | nil => intro us hu; have : us = [] := hu; subst this; exact ⟨rfl, fun u z => by simp at z⟩
      | cons z zs ih =>
        intro us hu
        obtain ⟨w, r, rfl, y1, y2⟩ := hu
        obtain ⟨i1, i2⟩ := ih r y2
        obtain ⟨k1, t, k2, k3⟩ := hK z w y1
        refine ⟨by rw [List.map_cons, k1, i1], fun u hu => ?_⟩
        rcases List.mem_cons.mp hu with y | y
        · rw [y, k1]
          exact ⟨t, k2, k3⟩
        · exact i2 u y
    obtain ⟨m1, m2⟩ := hmap ps us g2
    refine ⟨p, us, K0, by rw [e, e2], SqL.of g1, m2, fun ys n z1 z2 hn => kk _ _ (same_new hn) ?_⟩
    have pm : (ys.map K0).Perm ps := by
      have := z2.perm.map K0
      rwa [m1] at this
    have e4 : ys.map K0 = qs := List.Perm.eq_of_pairwise (le := LeP) (fun a b _ _ p q => by
      rcases p with p | ⟨p1, p2⟩
      · rcases q with q | ⟨q1, q2⟩ <;> omega
      · rcases q with q | ⟨q1, q2⟩
        · omega
        · exact Prod.ext p1 (Int.le_antisymm p2 q2)) (List.pairwise_map.mpr (z1.imp fun {x y} h => by
        have := SrtO.lexB_no.mp h
        unfold LeP
        omega)) h2 (pm.trans h1.symm)
    have hrep : ∀ (ys : List V), (∀ y ∈ ys, y ∈ us) → Reps CS H (Un2 A B) ((ys.map K0).map pairD) ys := fun ys => by
      induction ys with
      | nil => intro _; rfl
      | cons y ys ih =>
        intro hy
        obtain ⟨t, y1, y2⟩ := m2 y (hy y (by simp))
        exact ⟨y, ys, rfl, ⟨t, _, y1, y2, _, _, rfl, rfl, _, _, rfl, rfl, rfl⟩, ih fun z hz => hy z (by simp [hz])⟩
    rw [← e4]
    exact rr_newL (A' := Un2 A B) hn (lf_pairs _) (hrep ys fun y hy => z2.perm.mem_iff.mp hy)) (he := hs)
/-- xs.remove(i) -/
theorem xss_rem {ns : List Int} (C : Ctx X sc N vs ls gs) (k : Nat) (hi : N[k]? = some nm) (hv : vs.contains k = true) (hk : δ[k]? = some (some (.ml l (ns.map D.int)))) (he : XE X CS e δ (.d (.int i)) δ1) (hk1 : δ1[k]? = some (some (.ml l (ns.map D.int)))) (hm : i ∈ ns) (h2 : XSs X CS rest (δ1.set k (some (.ml l ((ns.erase i).map D.int)))) P')
    (hfew : ((backTo cp (starEach [e] X.env)).all (fun x => !x.1) && (backToKw cp (keywordEach [] X.env)).all (fun x => x.1.isSome) && decide (([e] : List Expr).length + ([] : List Keyword).length + (if ([] : List Keyword).isEmpty then 0 else 1) < 30)) = true := by rfl)
    (hline : (ap.endLine == cp.line) = true := by rfl) (hs : starEach [e] X.env = (false, eval e X.env) :: starEach [] X.env := by rfl) (hpl : (backTo cp (starEach [] X.env)).any (·.1) = false := by rfl) : XSs X CS (.Expr (.Call (.Attribute (.Name nm p2) "remove" ap) [e] [] cp) pos :: rest) δ P' :=
  pss_weak (pss_cons (ps_expr (pe_remX C.calm LamX.takes0 (xe_m (CS := CS) C k hi hv hk rfl) he rfl hfew hline hs hpl)) h2) fun D σ H ⟨A, B, s, kk⟩ => ⟨A, B, s, fun v H1 e1 s1 q1 => by
    have ev : v = .ref l := q1
    subst ev
    obtain ⟨v, g1, g2, gA, lf, us, g3, g4⟩ := s1.sl k _ hk
    refine ⟨.inl ⟨rfl, us, SqL.of g3⟩, A, B, s1, fun w H2 e2 s2 q2 => ?_⟩
    obtain ⟨v', f1, f2, fA, lf', us', f3, f4⟩ := s2.sl k _ hk1
    have ew : w = .int i := q2
    have f5 := f4.ints
    refine ⟨l, ns, i, rfl, ew, by rw [f3, f5], fun _ => ?_, fun z => absurd hm z⟩
    obtain ⟨x1, x2⟩ := ml_write (ds' := (ns.erase i).map K06.D.int) s2 hk1 (LFs_ints _) (Reps.of_ints _)
    exact tS_step (P := P') ((e1.trans e2).trans x1) x2 kk⟩
/-- xs.index(i) -/
theorem xe_index {ns : List Int} {m : Nat} (ha : XE X CS a δ r δ1) (hc0 : ∀ (A : AP1) (B : Bo) (σ : L2.St) (H H0 : Hp) (v : V), SR CS A B σ H δ1 → (∀ a, Un2 A B a → H0 a ≠ none) → RR CS A B H0 H r v → ∃ p us, v = .ref p ∧ H p = some (.lst us)) (he : XE X CS e δ1 (.d (.int i)) δ2) (hc : LstC δ2 r (ns.map D.int)) (hm : ns[m]? = some i) (hno : ∀ m', m' < m → ns[m']? ≠ some i)
    (hbase : attributeBase a "index" X.env (eval a X.env) = eval a X.env := by rfl)
    (hfew : ((backTo cp (starEach [e] X.env)).all (fun x => !x.1) && (backToKw cp (keywordEach [] X.env)).all (fun x => x.1.isSome) && decide (([e] : List Expr).length + ([] : List Keyword).length + (if ([] : List Keyword).isEmpty then 0 else 1) < 30)) = true := by rfl)
    (hline : (ap.endLine == cp.line) = true := by rfl) (hs : starEach [e] X.env = (false, eval e X.env) :: starEach [] X.env := by rfl) (hpl : (backTo cp (starEach [] X.env)).any (·.1) = false := by rfl) : XE X CS (.Call (.Attribute a "index" ap) [e] [] cp) δ (.d (.int (m : Nat))) δ2 :=
  pe_weak (pe_bm PySem.F.plainAttrs_list PySem.F.slot_list_index PySem.F.type_list_index mt_index ha (xa_cons (CS := CS) he xa_nil hs) hbase hfew hline hs hpl) fun σ H Q ⟨A, B, s, kk⟩ => ⟨A, B, s, fun v H1 e1 s1 q1 => by
    obtain ⟨p0, us0, ev, h0⟩ := hc0 A B σ H1 H v s1 (fun a z => s.tracked z) q1
    subst ev
    refine ⟨.inl ⟨rfl, us0, SqL.of h0⟩, A, B, s1, fun ws H2 e2 s2 q2 => ?_⟩
    obtain ⟨w, ew, q3⟩ := RRs.one q2
    have ew2 : w = .int i := q3
    obtain ⟨p, us, e3, g1, g2⟩ := hc.at' (fun a z => s.tracked z) s2 (q1.step s e2)
    have e4 := g2.ints
    subst e4
    refine ⟨p, _, w, m, .int i, e3, ew, SqL.of g1, by rw [ew2]; rfl, flat_ints ns, by rw [List.getElem?_map, hm]; rfl, by rw [ew2]; simp [eqV], fun m' z' hl hz => ?_, kk _ H2 (e1.trans e2) s2 rfl⟩
    rw [List.getElem?_map] at hz
    cases q : ns[m']? with
    | none => rw [q] at hz; cases hz
    | some y =>
      rw [q] at hz
      cases hz
      have : y ≠ i := fun z => hno m' hl (by rw [q, z])
      rw [ew2]
      simpa [eqV] using this⟩
/-! ### a written dict's get -/
structure SzC (K : PySem.W.Frag) (w : World) (mg : Str → Option Value) : Prop where
  ex : ∃ d es n, KDict K w d es n ∧ mg "SIZES" = some (.ref d) ∧ ∀ p ∈ ([("row", 4), ("open", 4), ("wait", 3)] : List (Str × Int)), ∃ u, PySem.W.nsIn K d p.1 = some (some u) ∧ RelV (V.int p.2) u
def tKGet (d : Addr) (K : PySem.W.Frag) (to ty tx : TE) : TE := fun σ H Q => to σ H fun x H1 => x = .ref d ∧ ty σ H1 fun y H2 => tx σ H2 fun z H3 => ∃ t v u, y = .str t ∧ PySem.W.nsIn K d t = some (some u) ∧ RelV v u ∧ Q v H3
theorem pe_kget {d : Addr} {es : Array DictEntry} {n : Nat} {o : Expr} {to ty tx : TE} (Dk : KDict X.K X.w d es n) (ho : PE X o to) (he : PE X e ty) (hf : PE X f tx) (m : M2 X o "get" ap e f cp) : PE X (.Call (.Attribute o "get" ap) [e, f] [] cp) (tKGet d X.K to ty tx) := by
  refine ⟨fun pins s σ H Q I h => ?_⟩
  refine wpAny_Call_method m.base m.few m.line PySem.F.plainAttrs_dict PySem.F.slot_dict_get PySem.F.type_dict_get (thn (ho.run pins s σ H _ I h) fun u s1 ⟨x, H1, I1, rx, ex, q1⟩ => ?_)
  subst ex
  obtain rfl : u = Value.ref d := rx
  have hm1 := PySem.W.mapOf_K (prog := X.prog) (w := X.w) I1.kIn Dk.at_ Dk.lit
  refine ⟨hm1.typeIs, hm1.noDict, ?_⟩
  rw [m.trees]
  refine Calls.callWith_builtin rfl (Calls.evalArgs_plain (Calls.spliced_cons (thn (he.run pins s1 σ H1 _ I1 q1) fun iv s2 ⟨y, H2, I2, ry, q2⟩ =>
    Calls.spliced_cons (thn (hf.run pins s2 σ H2 _ I2 q2) fun fv s3 ⟨z, H3, I3, rz, t, v0, u0, ey, hn, rv, q3⟩ => Calls.spliced_nil ?_))))
  subst ey
  obtain ⟨tk, rfl⟩ := (show ∃ tk, iv = Value.str t tk from ry)
  have hm3 := PySem.W.mapOf_K (prog := X.prog) (w := X.w) I3.kIn Dk.at_ Dk.lit
  refine call_meetsIn PySem.F.slot_dict_get hm3.typeIs PySem.F.entry_dict_get (PySem.F.args_dict_get_3 _ _ _) (meets_dict_get_default (PySem.strKind X.prog X.w) d (PySem.strKind_is X.prog X.w t tk) Dk.low fv) ⟨_, hm3, ?_⟩
  rw [PySem.W.find_K Dk.at_ hn]
  exact ⟨v0, H3, I3.tok _, rv, q3⟩
theorem xe_kget {t : Str} {q : Int} (Z : SzC X.K X.w X.mg) (C : Ctx X sc N vs ls gs) (k : Nat) (hk : gs[k]? = some "SIZES") (he : XE X CS e δ (.d (.str t)) δ1) (hf : XE X CS f δ1 (.d (.int i)) δ2) (hq : (t, q) ∈ ([("row", 4), ("open", 4), ("wait", 3)] : List (Str × Int)))
    (m : M2 X (.Name "SIZES" p2) "get" ap e f cp := by exact ⟨rfl, rfl, rfl, rfl⟩) : XE X CS (.Call (.Attribute (.Name "SIZES" p2) "get" ap) [e, f] [] cp) δ (.d (.int q)) δ2 := by
  obtain ⟨d, es, n, Dk, hmg, hall⟩ := Z.ex
  obtain ⟨g1, g2⟩ := C.gl k _ hk
  obtain ⟨u, h1, h2⟩ := hall _ hq
  exact pe_weak (pe_kget Dk (xe_g (CS := CS) (δ := δ) (x := .adr d) (v := .ref d) C k hk hmg rfl (fun _ _ => rfl)) he hf m) fun σ H Q ⟨A, B, s, kk⟩ => ⟨A, B, s, fun v H1 e1 s1 q1 => ⟨q1, A, B, s1, fun y H2 e2 s2 q2 => ⟨A, B, s2, fun z H3 e3 s3 q3 => ⟨t, _, u, q2, h1, h2, kk _ H3 ((e1.trans e2).trans e3) s3 rfl⟩⟩⟩⟩
/-! ### {k: f, ..}[k], texts and defs -/
theorem xe_disp3 {k1 k2 k3 v1 v2 v3 : Expr} {t1 t2 t3 t : Str} {f1 f2 f3 fx : Addr} (hu : X.A.units + 1 < cLine) (hk1 : XE X CS k1 δ (.d (.str t1)) δ) (hk2 : XE X CS k2 δ (.d (.str t2)) δ) (hk3 : XE X CS k3 δ (.d (.str t3)) δ) (hv1 : XE X CS v1 δ (.d (.adr f1)) δ) (hv2 : XE X CS v2 δ (.d (.adr f2)) δ) (hv3 : XE X CS v3 δ (.d (.adr f3)) δ)
    (he : XE X CS e δ (.d (.str t)) δ) (hx : ([(t1, f1), (t2, f2), (t3, f3)] : List (Str × Addr)).lookup t = some fx) (n12 : t1 ≠ t2) (n13 : t1 ≠ t3) (n23 : t2 ≠ t3) (hs : NoSl e := by intro _ _; rfl) : XE X CS (.Subscript (.Dict [some k1, some k2, some k3] [v1, v2, v3] p2) e pos) δ (.d (.adr fx)) δ :=
  pe_weak (pe_dget hu (pe_disp (pps_cons hk1 hv1 (pps_cons hk2 hv2 (pps_cons hk3 hv3 pps_nil))) rfl rfl (by simp) (by simp)) he hs) fun σ H Q ⟨A, B, s, kk⟩ => fun p hp => by
    have sm : Same H (upd H p (.dK [])) := same_new hp
    have np : ¬ Mu A (B.with p) p := fun z => s.tracked (.inl z) hp
    refine ⟨A, B.with p, s.guard hp trivial, fun w1 H1 e1 s1 q1 => ⟨A, B.with p, s1, fun w2 H2 e2 s2 q2 => ⟨A, B.with p, s2, fun w3 H3 e3 s3 q3 => ⟨A, B.with p, s3, fun w4 H4 e4 s4 q4 => ⟨A, B.with p, s4, fun w5 H5 e5 s5 q5 => ⟨A, B.with p, s5, fun w6 H6 e6 s6 q6 => ?_⟩⟩⟩⟩⟩⟩
    have hp6 : H6 p = some (.dK []) := e6.out p _ np (e5.out p _ np (e4.out p _ np (e3.out p _ np (e2.out p _ np (e1.out p _ np upd_same)))))
    have z1 : w1 = .str t1 := q1
    have z2 : w2 = .ref f1 := q2
    have z3 : w3 = .str t2 := q3
    have z4 : w4 = .ref f2 := q4
    have z5 : w5 = .str t3 := q5
    have z6 : w6 = .ref f3 := q6
    subst z1; subst z2; subst z3; subst z4; subst z5; subst z6
    refine ⟨hp6, [(Sum.inr t1, .ref f1), (Sum.inr t2, .ref f2), (Sum.inr t3, .ref f3)], rfl, by simp, ?_⟩
    have s7 := s6.updZ (o := .dK (mergeK [] [(Sum.inr t1, .ref f1), (Sum.inr t2, .ref f2), (Sum.inr t3, .ref f3)])) (Dl := p) (.inr rfl) np trivial
    have E6 : Ext A B H A H6 := (Same.ext sm).trans (((((e1.unguard.trans e2.unguard).trans e3.unguard).trans e4.unguard).trans e5.unguard).trans e6.unguard)
    refine ⟨A, B.with p, s7, fun y H8 e8 s8 q8 => ?_⟩
    have ey : y = .str t := q8
    have hp8 := e8.out p _ np upd_same
    refine ⟨p, .ref fx, rfl, ?_, kk _ H8 ((E6.updN hp).trans e8.unguard) s8.unguard rfl⟩
    rw [ey]
    have hv : valV (mergeK [] [(Sum.inr t1, V.ref f1), (Sum.inr t2, .ref f2), (Sum.inr t3, .ref f3)]) (Sum.inr t) = some (V.ref fx) := by
      have m : mergeK [] [(Sum.inr t1, V.ref f1), (Sum.inr t2, .ref f2), (Sum.inr t3, .ref f3)] = [(Sum.inr t1, V.ref f1), (Sum.inr t2, .ref f2), (Sum.inr t3, .ref f3)] := by
        simp [mergeK, putK, n12, n13, n23, valV]
      rw [m]
      have h1 : ∀ a b : Str, ((b == a) : Bool) = decide (a = b) := fun a b => by
        by_cases z : a = b
        · simp [z]
        · have : ¬ b = a := fun y => z y.symm
          simp [z, this]
      simp only [List.lookup_cons, List.lookup_nil, h1] at hx
      simp only [valV, List.find?_cons, List.find?_nil, Sum.inr.injEq]
      by_cases y1 : t1 = t
      · simp [y1] at hx ⊢
        exact hx
      · simp [y1] at hx ⊢
        by_cases y2 : t2 = t
        · simp [y2] at hx ⊢
          exact hx
        · simp [y2] at hx ⊢
          by_cases y3 : t3 = t
          · simp [y3] at hx ⊢
            exact hx
          · simp [y3] at hx
    rw [← hv]
    exact DGet.k (k := Sum.inr t) hp8
/-! ### the call of a local name that holds a def -/
theorem xe_callL {kc m : Nat} {fx : Addr} {pyn : Str} {R : List D → D → Prop} (c : CalX X kc pyn (spD CS R)) (hm : X.mg pyn = some (.ref fx)) (hr : Room m X.A) (hk : kc ≤ m) (C : Ctx X sc N vs ls gs) (k : Nat) (hN : N[k]? = some nm) (hv : vs.contains k = true) (ha : XA X CS (e :: es) δ rs δ1) (hs0 : δ[k]? = some (some (.im (.adr fx)))) (hc : ArgC δ1 rs ds) (hR : R ds x)
    (he : starEach (e :: es) X.env = (false, eval e X.env) :: starEach es X.env := by rfl) (hpl : (backTo pos (starEach es X.env)).any (·.1) = false := by rfl) : XE X CS (.Call (.Name nm p2) (e :: es) [] pos) δ (.n x) δ1 := by
  obtain ⟨f, fd, ps, F, hm', hkp, hb⟩ := c.ex
  rw [hm] at hm'
  cases hm'
  obtain ⟨v1, v2, v3⟩ := C.vis k nm hv hN
  refine pe_weak (pe_callL (i := k) F (hr.mono hk) (by rw [C.hN]; exact hN) v1 hkp hb .nil pass0 ha v2 v3 he hpl) fun σ H Q ⟨A, B, s, kk⟩ => ?_
  obtain ⟨v, e1, e2⟩ := s.sl k _ hs0
  have e3 : v = .ref fx := e2
  subst e3
  refine ⟨e1, A, B, s, fun ws H1 e1 s1 q1 => ?_⟩
  refine ⟨ds, x, hR, ?_, fun v H2 sm q2 => ?_⟩
  · rw [List.append_nil]
    exact ArgC.at (fun a z => z.elim) (fun i l ds' _ z => z) (fun a z => s.tracked z) s1 hc q1
  · exact kk v H2 (e1.trans (Same.ext sm)) (s1.same sm) (Rep.anti (fun a z => e1.there a z) x v q2)
/-- f(..) as a statement -/
theorem xss_do (h : XE X CS e δ (.n x) δ1) (h2 : XSs X CS rest δ1 P') (hs : swapsWith e none pos.line X.env = pure false := by rfl) : XSs X CS (.Expr e pos :: rest) δ P' :=
  pss_weak (pss_cons (ps_expr h hs) h2) fun D σ H ⟨A, B, s, kk⟩ => ⟨A, B, s, fun v H1 e1 s1 q1 => tS_step (P := P') e1 s1 kk⟩
end
end K06
/-! M3: loads as they are told in one go; plain Lean. -/
namespace K06
theorem sum_perm {as bs : List Int} (h : as.Perm bs) : as.sum = bs.sum := by
  induction h with
  | nil => rfl
  | cons x _ ih => simp [ih]
  | swap x y l => simp only [List.sum_cons]; omega
  | trans _ _ h1 h2 => exact h1.trans h2
theorem needSum_perm {dl : List Deed} {as bs : List Nat} (h : as.Perm bs) : needSum dl as = needSum dl bs := sum_perm (h.map _)
theorem needSum_add (dl : List Deed) (as : List Nat) (n : Nat) : needSum dl (as ++ [n]) = needSum dl as + needAt dl n := by simp [needSum]
theorem needAt_of {dl : List Deed} {i : Nat} {d : Deed} (h : dl[i]? = some d) : needAt dl i = d.need := by simp [needAt, h]
/-- all before one that has begun have begun -/
theorem Ok.begun {b h : Int} {dl : List Deed} (o : Ok b h dl) {i j : Nat} {x y : Deed} (hi : dl[i]? = some x) (hj : dl[j]? = some y) (l : i < j) (hy : y.first ≠ none) : x.first ≠ none := by
  rcases o.elder hi hj l with z | ⟨a, _, e, _⟩
  · exact absurd z hy
  · rw [e]
    simp
/-- the begun of the first i -/
def bp (dl : List Deed) (i : Nat) : List Nat := (List.range i).filter fun j => ((dl[j]?.bind (·.first)).isSome)
theorem bp_succ_none {dl : List Deed} {i : Nat} {d : Deed} (h : dl[i]? = some d) (hn : d.first = none) : bp dl (i + 1) = bp dl i := by
  unfold bp
  rw [List.range_succ, List.filter_append]
  simp [h, hn]
theorem bp_range {b h : Int} {dl : List Deed} (o : Ok b h dl) {i : Nat} {d : Deed} (hd : dl[i]? = some d) (hn : d.first ≠ none) : bp dl i = List.range i := by
  unfold bp
  rw [List.filter_eq_self]
  intro j hj
  have hj' := List.mem_range.mp hj
  have hi := (List.getElem?_eq_some_iff.mp hd).1
  have hjl : j < dl.length := by omega
  have e : dl[j]? = some dl[j] := by simp [hjl]
  have := o.begun e hd hj' hn
  rw [e]
  cases q : dl[j].first with
  | none => exact absurd q this
  | some f => simp [q]
theorem bp_succ {b h : Int} {dl : List Deed} (o : Ok b h dl) {i : Nat} {d : Deed} (hd : dl[i]? = some d) (hn : d.first ≠ none) : bp dl (i + 1) = List.range (i + 1) := by
  unfold bp
  rw [List.range_succ, List.filter_append]
  have := bp_range o hd hn
  unfold bp at this
  rw [this]
  cases q : d.first with
  | none => exact absurd q hn
  | some f => simp [hd, q]
theorem reach_app {ws : List (List Nat)} {as bs : List Nat} {x : Nat} : Reach ws (as ++ bs) x ↔ Reach ws as x ∨ Reach ws bs x := by
  constructor
  · intro h
    induction h with
    | base m =>
      rcases List.mem_append.mp m with z | z
      · exact .inl (.base z)
      · exact .inr (.base z)
    | step _ e m ih =>
      rcases ih with z | z
      · exact .inl (.step z e m)
      · exact .inr (.step z e m)
  · rintro (h | h)
    · exact h.mono fun y hy => .base (List.mem_append_left _ hy)
    · exact h.mono fun y hy => .base (List.mem_append_right _ hy)
theorem load_none {h : Int} {dl : List Deed} {i : Nat} {d : Deed} (e : dl[i]? = some d) (q : d.first = none) : load h dl i = d.need := by simp [load, e, q]
theorem load_some {h f : Int} {dl : List Deed} {i : Nat} {d : Deed} (e : dl[i]? = some d) (q : d.first = some f) : load h dl i = h - f + needSum dl (clo (wts dl) (List.range (i + 1))) := by simp [load, e, q]
theorem loads_len (h : Int) (dl : List Deed) : (loads h dl).length = dl.length := by simp [loads]
/-- no load is too great -/
noncomputable def fineB (c h : Int) (dl : List Deed) : Bool := (loads h dl).all fun l => decide (l ≤ c)
noncomputable def heavies (c h : Int) (dl : List Deed) : List Nat := (List.range dl.length).filter fun i => decide (c < load h dl i)
theorem heavies_nil (c h : Int) (dl : List Deed) : decide ((heavies c h dl).length = 0) = fineB c h dl := by
  unfold fineB heavies loads
  rw [Bool.eq_iff_iff, decide_eq_true_iff, List.length_eq_zero_iff, List.filter_eq_nil_iff, List.all_eq_true]
  constructor
  · intro z x hx
    obtain ⟨i, hi, rfl⟩ := List.mem_map.mp hx
    have := z i hi
    simp only [decide_eq_true_eq] at this ⊢
    omega
  · intro z i hi
    have := z _ (List.mem_map_of_mem hi)
    simp only [decide_eq_true_eq] at this ⊢
    omega
/-- what holds of the known while the loads are told -/
structure LInv (dl : List Deed) (i : Nat) (keys : List Nat) (tot : Int) : Prop where
  nd : keys.Nodup
  rc : ∀ x, x ∈ keys ↔ Reach (wts dl) (bp dl i) x
  sm : tot = needSum dl keys
/-- .. and while those of one deed come to it -/
structure LMid (dl : List Deed) (i m : Nat) (keys : List Nat) (tot : Int) : Prop where
  nd : keys.Nodup
  rc : ∀ x, x ∈ keys ↔ Reach (wts dl) (bp dl i) x ∨ x ∈ (clo (wts dl) [i]).take m
  sm : tot = needSum dl keys
theorem LInv.mid {dl : List Deed} {i : Nat} {keys : List Nat} {tot : Int} (h : LInv dl i keys tot) : LMid dl i 0 keys tot := ⟨h.nd, fun x => by simp [h.rc], h.sm⟩
theorem LMid.old {dl : List Deed} {i m n : Nat} {keys : List Nat} {tot : Int} (h : LMid dl i m keys tot) (e : (clo (wts dl) [i])[m]? = some n) (k : n ∈ keys) : LMid dl i (m + 1) keys tot := by
  refine ⟨h.nd, fun x => ?_, h.sm⟩
  rw [h.rc, List.take_add_one, e]
  constructor
  · rintro (z | z)
    · exact .inl z
    · exact .inr (List.mem_append_left _ z)
  · rintro (z | z)
    · exact .inl z
    · rcases List.mem_append.mp z with y | y
      · exact .inr y
      · have : x = n := by simpa using y
        rw [this]
        exact (h.rc n).mp k
theorem LMid.put {dl : List Deed} {i m n : Nat} {keys : List Nat} {tot : Int} (h : LMid dl i m keys tot) (e : (clo (wts dl) [i])[m]? = some n) (k : n ∉ keys) : LMid dl i (m + 1) (keys ++ [n]) (tot + needAt dl n) := by
  refine ⟨(List.perm_append_singleton n keys).nodup_iff.mpr (List.nodup_cons.mpr ⟨k, h.nd⟩), fun x => ?_, by rw [needSum_add, h.sm]⟩
  rw [List.mem_append, h.rc, List.take_add_one, e, List.mem_append]
  simp only [Option.toList, or_assoc]
theorem LMid.fin {b h : Int} {dl : List Deed} {i : Nat} {d : Deed} {keys : List Nat} {tot : Int} (o : Ok b h dl) (hd : dl[i]? = some d) (hn : d.first ≠ none) (l : LMid dl i (clo (wts dl) [i]).length keys tot) : LInv dl (i + 1) keys tot := by
  refine ⟨l.nd, fun x => ?_, l.sm⟩
  have hi : i < dl.length := (List.getElem?_eq_some_iff.mp hd).1
  rw [l.rc, List.take_length, bp_succ o hd hn, bp_range o hd hn, List.range_succ, reach_app, mem_clo o.wf (by intro y hy; rw [wts_len, List.mem_singleton.mp hy]; exact hi)]
theorem LInv.load {b h f : Int} {dl : List Deed} {i : Nat} {d : Deed} {keys : List Nat} {tot : Int} (o : Ok b h dl) (hd : dl[i]? = some d) (hn : d.first = some f) (l : LInv dl (i + 1) keys tot) : load h dl i = h - f + tot := by
  have hi : i < dl.length := (List.getElem?_eq_some_iff.mp hd).1
  rw [load_some hd hn, l.sm]
  congr 1
  refine needSum_perm (perm_of (up_nodup (clo_up _ _)) l.nd fun x => ?_)
  rw [mem_clo o.wf (by intro y hy; rw [wts_len]; have := List.mem_range.mp hy; omega), l.rc, bp_succ o hd (by rw [hn]; simp)]
end K06
/-! D4: standings made; loads. -/
namespace K06
open PySem PySem.Spec L2
variable {P : Program} {w : World} {K : PySem.W.Frag} {mg : Str → Option Value} {base : Heap} {CS : Addr} {X : Cx}
def waitsF (dl : List Deed) (i : Nat) : Option D := some (.tup (natsD ((dl.getD i ⟨none, 0, []⟩).waits)))
theorem waitsF_of {dl : List Deed} {i : Nat} {d : Deed} (h : dl[i]? = some d) : waitsF dl i = some (.tup (natsD d.waits)) := by
  unfold waitsF
  rw [List.getD_eq_getElem?_getD, h]
  rfl
theorem waitsF_eq (dl : List Deed) : (List.range (encDs dl).length).filterMap (waitsF dl) = encW (wts dl) := by
  rw [encDs_len]
  unfold waitsF
  rw [fm_some, encW, wts, List.map_map]
  refine range_get dl _ _ fun i x h => ?_
  rw [List.getD_eq_getElem?_getD, h]
  rfl
/-- a right standing -/
def R_std (c h : Int) (ds : List D) : Prop := ∃ b dl, ds = encDs dl ∧ Ok b h dl ∧ b ≤ 10 ^ 30 ∧ 1 ≤ c ∧ c ≤ 10 ^ 30 ∧ used h dl ≤ c
theorem b_Standing_init (C : Ctx X (defScope s_Standing_init) N_Standing_init V_Standing_init V_Standing_init G_Standing_init) (hr : Room 5 X.A) (S : StdC X.K CS) (mc : Cst X.mg "MOST_CELLS" (10 ^ 30)) (mh : Cst X.mg "MOST_HEAD" (10 ^ 40)) (md : Cst X.mg "MOST_DEEDS" 200)
    (c_is_within : CalX X 2 "is_within" (spD CS R_is_within)) (c_is_number : CalX X 3 "is_number" (spD CS R_is_number)) (c_first_wrong : CalX X 5 "first_wrong" (spD CS R_first_wrong)) (c_is_too_far : CalX X 1 "is_too_far" (spD CS R_is_too_far)) (c_first_in_ring : CalX X 3 "first_in_ring" (spD CS R_first_in_ring))
    {x : Addr} {c h : Int} {ds : List D} (hR : R_std c h ds) : XSs X CS (defBody s_Standing_init) (startD N_Standing_init [.ob x [], .im (.int c), .im (.int h), .im (.tup ds)])
      { nx := fun δ => ∃ r, δ = some (.ob x [("cells", .int c), ("head", .int h), ("deeds", .tup ds)]) :: some (.im (.int c)) :: some (.im (.int h)) :: some (.im (.tup ds)) :: r, rt := fun _ _ => False } := by
  obtain ⟨b, dl, rfl, o, hb, h1, h2, hu⟩ := hR
  have big : (10 : Int) ^ 30 ≤ 10 ^ 40 := by decide
  refine xss_if0 (xt_not (xt_v (xn (xe_call c_is_within hr (by decide) C 0 rfl (xa_cons (xe_v C 1 rfl rfl rfl) (xa_cons xe_int (xa_cons (xe_gi C mc 1 rfl) xa_nil))) (argc_ds _ [_, _, _]) (within_t h1 h2))))) (by intro z; cases z) (fun _ => ?_)
  refine xss_if0 (xt_not (xt_v (xn (xe_call c_is_number hr (by decide) C 3 rfl (xa_cons (xe_v C 2 rfl rfl rfl) (xa_cons (xe_gi C mh 4 rfl) xa_nil)) (argc_ds _ [_, _]) ⟨_, _, rfl, o.h0, Int.le_trans o.hb (Int.le_trans hb big), rfl⟩)))) (by intro z; cases z) (fun _ => ?_)
  refine xss_if0 (p := false) (xw (xw_or (xt_not (xt_v (xe_isi C 5 rfl (xe_v C 3 rfl rfl rfl) (xe_bt (T := "tuple") C 6 rfl C.glb.tuple (by decide +kernel)) (q := true) rfl (by decide +kernel)))) (fun _ => (xw_or1 (xt_b (xt_gt (xe_len C 7 rfl (xe_v C 3 rfl rfl rfl) (.inr rfl)) (xe_gi C md 8 rfl)) (decide_eq_false (by rw [encDs_len]; have := o.len; omega))))) (by intro z; cases z))) (by intro z; cases z) (fun _ => ?_)
  refine xss_set C 4 rfl rfl (xn (xe_call c_first_wrong hr (by decide) C 9 rfl (xa_cons (xe_v C 2 rfl rfl rfl) (xa_cons (xe_v C 3 rfl rfl rfl) xa_nil)) (argc_ds _ [_, _]) (.mk o hb))) ?_ (lt_of rfl)
  refine xss_if0 (xt_notN (xe_v C 4 rfl rfl rfl)) (by intro z; cases z) (fun _ => ?_)
  refine xss_if0 (xt_v (xn (xe_call c_is_too_far hr (by decide) C 10 rfl (xa_cons (xe_v C 1 rfl rfl rfl) (xa_cons (xe_v C 2 rfl rfl rfl) (xa_cons (xe_v C 3 rfl rfl rfl) xa_nil))) (argc_ds _ [_, _, _]) (.mk hu)))) (by intro z; cases z) (fun _ => ?_)
  refine xss_set C 4 rfl rfl (xn (xe_call c_first_in_ring hr (by decide) C 11 rfl (xa_cons (xn (xe_lcP (own := [("first", 5), ("need", 6), ("waits", 7)]) (waitsF dl) C [5, 6, 7] [5, 6, 7] [] (xi_t (xe_v C 3 rfl rfl rfl) rfl) (by decide +kernel) (by decide +kernel) (lf_encs dl) (by rw [encDs_len]; have := o.len; omega) (fun i d hd => ?_) (waitsF_eq dl))) xa_nil) (argc_ds _ [_]) (.mk o.wf o.ac (fun l hl => ?_) (by rw [wts_len]; have := o.len; omega)))) ?_ (lt_of rfl)
  · obtain ⟨dd, e, rfl⟩ := encDs_of hd
    exact ⟨_, _, true, rfl, fun Y hB D => (xg_t D (xgs_cons (xg_n D 5 rfl rfl (lt_of rfl)) (xgs_cons (xg_n D 6 rfl rfl (lt_of rfl)) (xgs_cons (xg_n D 7 rfl rfl (lt_of rfl)) xgs_nil))) rfl), fun Y hB D => xts_nil, fun _ => ⟨_, waitsF_of e, fun Y hB D => (xe_v D 7 rfl rfl rfl), LFs_nats _⟩, (by intro z; cases z), rfl⟩
  · obtain ⟨d, hd, rfl⟩ := List.mem_map.mp hl
    obtain ⟨i, hi⟩ := List.mem_iff_getElem?.mp hd
    exact up_nodup (o.wt i d hi).up
  refine xss_if0 (xt_notN (xe_v C 4 rfl rfl rfl)) (by intro z; cases z) (fun _ => ?_)
  refine xss_fld S S.nc C 0 rfl rfl (xe_v C 1 rfl rfl rfl) rfl rfl (lt_of rfl) ?_
  refine xss_fld S S.nh C 0 rfl rfl (xe_v C 2 rfl rfl rfl) rfl rfl (lt_of rfl) ?_
  refine xss_fld S S.nd C 0 rfl rfl (xe_v C 3 rfl rfl rfl) rfl (lf_encs dl) (lt_of rfl) (xss_nil ⟨_, rfl⟩)
theorem c_Standing {f : Addr} {fd : FuncData} {nm qual : Str} (F : L2.Fun K nm qual s_Standing_init f fd) (hm : mg "Standing" = some (.ref CS)) (M : Mk K CS f) (hg : Glb mg) (S : StdC K CS) (mc : Cst mg "MOST_CELLS" (10 ^ 30)) (mh : Cst mg "MOST_HEAD" (10 ^ 40)) (md : Cst mg "MOST_DEEDS" 200)
    (c_is_within : CalP P w K mg base 2 "is_within" (spD CS R_is_within)) (c_is_number : CalP P w K mg base 3 "is_number" (spD CS R_is_number)) (c_first_wrong : CalP P w K mg base 5 "first_wrong" (spD CS R_first_wrong)) (c_is_too_far : CalP P w K mg base 1 "is_too_far" (spD CS R_is_too_far)) (c_first_in_ring : CalP P w K mg base 3 "first_in_ring" (spD CS R_first_in_ring)) :
    MakP P w K mg base CS 6 "Standing" R_std :=
  ⟨f, fd, _, mkI F hg sc_Standing_init ok_Standing_init rfl (fun X hX C hr x c h ds hR => b_Standing_init C hr (hX.std S) (by rw [hX.m]; exact mc) (by rw [hX.m]; exact mh) (by rw [hX.m]; exact md) (hX.cal c_is_within) (hX.cal c_is_number) (hX.cal c_first_wrong) (hX.cal c_is_too_far) (hX.cal c_first_in_ring) hR), hm, M, F.binds fun _ _ _ _ _ _ us hl => match us, hl with | [_, _, _, _], _ => rfl⟩

inductive R_waits_of : List D → D → Prop
  | mk {c h : Int} {dl : List Deed} : dl.length ≤ 30 → R_waits_of [.std c h (encDs dl)] (.lst (encW (wts dl)))
theorem b_waits_of (C : Ctx X (defScope s_waits_of) N_waits_of V_waits_of V_waits_of G_waits_of) (hr : Room 0 X.A) (S : StdC X.K CS) {ds : List D} {r : D} (hR : R_waits_of ds r) :
    XSs X CS (defBody s_waits_of) (startD N_waits_of (ds.map Slot.im)) (Pr r) := by
  cases hR with
  | @mk c h dl hn =>
    refine xss_retn (xe_lcP (own := [("first", 1), ("need", 2), ("waits", 3)]) (waitsF dl) C [1, 2, 3] [1, 2, 3] [] (xi_t (xe_deeds S (xe_v C 0 rfl rfl rfl)) rfl) (by decide +kernel) (by decide +kernel) (lf_encs dl) (by rw [encDs_len]; omega) (fun i d hd => ?_) (waitsF_eq dl)) rfl
    obtain ⟨dd, e, rfl⟩ := encDs_of hd
    exact ⟨_, _, true, rfl, fun Y hB D => (xg_t D (xgs_cons (xg_n D 1 rfl rfl (lt_of rfl)) (xgs_cons (xg_n D 2 rfl rfl (lt_of rfl)) (xgs_cons (xg_n D 3 rfl rfl (lt_of rfl)) xgs_nil))) rfl), fun Y hB D => xts_nil, fun _ => ⟨_, waitsF_of e, fun Y hB D => (xe_v D 3 rfl rfl rfl), LFs_nats _⟩, (by intro z; cases z), rfl⟩
theorem c_waits_of (D : Df K mg "waits_of" s_waits_of) (hg : Glb mg) (S : StdC K CS) : CalP P w K mg base 1 "waits_of" (spD CS R_waits_of) :=
  mkD D hg sc_waits_of ok_waits_of (by intro _ _ h; cases h <;> rfl) (fun X hX C hr ds r hR => b_waits_of C hr (hX.std S) hR) (fun f fd F => F.binds fun _ _ _ _ _ _ us hl => match us, hl with | [_], _ => rfl)

abbrev S_lo (c h : Int) (dl : List Deed) (lk lf : Addr) (keys : List Nat) (tot : Int) (found : List D) (x5 x6 x7 x8 x9 : Option Slot) : Sto := [some (.im (.std c h (encDs dl))), some (.im (.lst (encW (wts dl)))), some (.md lk (kvT keys)), some (.im (.int tot)), some (.ml lf found), x5, x6, x7, x8, x9]
noncomputable def loadsD (h : Int) (dl : List Deed) (i : Nat) : List D := (List.range i).map fun j => D.int (load h dl j)
theorem loadsD_succ (h : Int) (dl : List Deed) (i : Nat) : loadsD h dl (i + 1) = loadsD h dl i ++ [D.int (load h dl i)] := by simp [loadsD, List.range_succ]
theorem loadsD_all (h : Int) (dl : List Deed) : loadsD h dl dl.length = (loads h dl).map D.int := by simp [loadsD, loads]
inductive R_loads_of : List D → D → Prop
  | mk {b c h : Int} {dl : List Deed} : Ok b h dl → R_loads_of [.std c h (encDs dl)] (.tup ((loads h dl).map D.int))
theorem b_loads_of (C : Ctx X (defScope s_loads_of) N_loads_of V_loads_of V_loads_of G_loads_of) (hr : Room 2 X.A) (S : StdC X.K CS) (c_waits_of : CalX X 1 "waits_of" (spD CS R_waits_of)) (c_waited_for : CalX X 2 "waited_for" (spD CS R_waited_for)) {ds : List D} {r : D} (hR : R_loads_of ds r) :
    XSs X CS (defBody s_loads_of) (startD N_loads_of (ds.map Slot.im)) (Pr r) := by
  cases hR with
  | @mk b c h dl o =>
    have hu : X.A.units + 1 < cLine := hu_of hr
    have hlen := o.len
    refine xss_set C 1 rfl rfl (xn (xe_call c_waits_of hr (by decide) C 0 rfl (xa_cons (xe_v C 0 rfl rfl rfl) xa_nil) (argc_ds _ [_]) (.mk o.len))) ?_ (lt_of rfl)
    refine xss_setD C 2 rfl rfl (fun lk => ?_) (lt_of rfl)
    refine xss_set C 3 rfl rfl xe_int ?_ (lt_of rfl)
    refine xss_setL C 4 rfl rfl (xe_lst (ds := []) xa_nil (by decide) rfl) rfl (fun lf => ?_) (lt_of rfl)
    refine xss_for C (xi_et C 1 rfl (xe_deeds S (xe_v C 0 rfl rfl rfl)) rfl) (fun i δ => ∃ keys tot x5 x6 x7 x8 x9, δ = S_lo c h dl lk lf keys tot (loadsD h dl i) x5 x6 x7 x8 x9 ∧ LInv dl i keys tot)
      (fun δ => ∃ keys tot x5 x6 x7 x8 x9, δ = S_lo c h dl lk lf keys tot ((loads h dl).map D.int) x5 x6 x7 x8 x9) ⟨[], 0, none, none, none, none, none, rfl, List.nodup_nil, fun x => ⟨fun z => by simp at z, fun z => by
        exfalso
        have : ∀ y, Reach (wts dl) (bp dl 0) y → False := fun y r => by
          induction r with
          | base m => simp [bp] at m
          | step _ _ _ ih => exact ih
        exact this x z⟩, rfl⟩ (fun i d δ hd hI => ?_) (fun δ ⟨keys, tot, x5, x6, x7, x8, x9, e, _⟩ => ⟨keys, tot, x5, x6, x7, x8, x9, by rw [e, enumD_len, encDs_len, loadsD_all]⟩) (fun δ ⟨keys, tot, x5, x6, x7, x8, x9, e⟩ => by
        subst e
        exact xss_ret (xe_tuple C 3 rfl (xe_m C 4 rfl rfl rfl rfl) ⟨4, rfl⟩) rfl (LFs_ints _))
    obtain ⟨keys, tot, x5, x6, x7, x8, x9, rfl, inv⟩ := hI
    obtain ⟨d', hd', rfl⟩ := enumD_of hd
    obtain ⟨dd, e, rfl⟩ := encDs_of hd'
    have hi : i < dl.length := (List.getElem?_eq_some_iff.mp e).1
    have hwl : ∀ y ∈ [i], y < (wts dl).length := by intro y hy; rw [wts_len, List.mem_singleton.mp hy]; exact hi
    have flen : (loadsD h dl i).length ≤ 1000 := by simp [loadsD]; omega
    refine ⟨_, _, (xg_t C (xgs_cons (xg_n C 5 rfl rfl (lt_of rfl)) (xgs_cons (xg_t C (xgs_cons (xg_n C 6 rfl rfl (lt_of rfl)) (xgs_cons (xg_n C 7 rfl rfl (lt_of rfl)) (xgs_cons (xg_n C 8 rfl rfl (lt_of rfl)) xgs_nil))) rfl) xgs_nil)) rfl), ?_⟩
    refine xss_if (Mid := fun δ => ∃ keys tot x5 x6 x7 x8 x9, δ = S_lo c h dl lk lf keys tot (loadsD h dl (i + 1)) x5 x6 x7 x8 x9 ∧ LInv dl (i + 1) keys tot) (xt_isN (xe_v C 6 rfl rfl rfl)) (fun hb => ?_) (fun hb => ?_) (fun δ z => xss_nil z)
    · rw [isNon_optD] at hb
      have hn : dd.first = none := by
        cases q : dd.first with
        | none => rfl
        | some f => rw [q] at hb; cases hb
      refine xss_app C 4 rfl rfl rfl (xe_v C 7 rfl rfl rfl) rfl rfl flen ?_
      have E : loadsD h dl i ++ [D.int dd.need] = loadsD h dl (i + 1) := by rw [loadsD_succ, load_none e hn]
      rw [E]
      exact xss_nil ⟨keys, tot, _, _, _, _, _, rfl, inv.nd, fun x => by rw [bp_succ_none e hn]; exact inv.rc x, inv.sm⟩
    · rw [isNon_optD] at hb
      obtain ⟨f, hf⟩ : ∃ f, dd.first = some f := by
        cases q : dd.first with
        | none => rw [q] at hb; cases hb
        | some f => exact ⟨f, rfl⟩
      have hn : dd.first ≠ none := by rw [hf]; simp
      have hcl : (clo (wts dl) [i]).length ≤ 30 := Nat.le_trans (clo_len _ _) (by rw [wts_len]; exact o.len)
      refine xss_for C (xi_t (xn (xe_call c_waited_for hr (by decide) C 2 rfl (xa_cons (xe_v C 1 rfl rfl rfl) (xa_cons (xe_tup (ds := [_]) (xa_cons (xe_v C 5 rfl rfl rfl) xa_nil) (le_of rfl)) xa_nil)) (argc_ds _ [_, _]) ⟨wts dl, [i], rfl, o.wf, hwl, by simp, by rw [wts_len]; omega, rfl⟩)) rfl)
        (fun m δ => ∃ keys tot x9, δ = S_lo c h dl lk lf keys tot (loadsD h dl i) (some (.im (.int (i : Nat)))) (some (.im (optD dd.first))) (some (.im (.int dd.need))) (some (.im (.tup (natsD dd.waits)))) x9 ∧ LMid dl i m keys tot) _ ⟨keys, tot, x9, rfl, inv.mid⟩ (fun m d δ hd hI => ?_) (fun δ z => z) (fun δ hI => ?_)
      · obtain ⟨keys, tot, x9, rfl, mid⟩ := hI
        obtain ⟨n, hn', rfl⟩ := natsD_of hd
        have hnl : n < dl.length := by
          have := clo_lt (List.mem_of_getElem? hn')
          rwa [wts_len] at this
        have hng : dl[n]? = some dl[n] := by simp [hnl]
        have kl : keys.length ≤ 30 := by
          refine Nat.le_trans (nodup_len (n := dl.length) mid.nd fun x hx => ?_) o.len
          rcases (mid.rc x).mp hx with z | z
          · have := z.lt o.wf (by
              intro y hy
              rw [wts_len]
              have := List.mem_range.mp (List.mem_filter.mp hy).1
              omega)
            rwa [wts_len] at this
          · have := clo_lt (List.mem_of_mem_take z)
            rwa [wts_len] at this
        refine ⟨_, _, (xg_n C 9 rfl rfl (lt_of rfl)), ?_⟩
        refine xss_if (Mid := fun δ => ∃ keys tot x9, δ = S_lo c h dl lk lf keys tot (loadsD h dl i) (some (.im (.int (i : Nat)))) (some (.im (optD dd.first))) (some (.im (.int dd.need))) (some (.im (.tup (natsD dd.waits)))) x9 ∧ LMid dl i (m + 1) keys tot) (xt_dnotin hu (xe_v C 9 rfl rfl rfl) (xe_m C 2 rfl rfl rfl rfl) ⟨2, rfl⟩) (fun hb => ?_) (fun hb => ?_) (fun δ z => xss_nil z)
        · have hni : n ∉ keys := fun z => by
            rw [kvT_look, if_pos z] at hb
            cases hb
          refine xss_dput hu C 2 rfl rfl xe_bl rfl (xe_v C 9 rfl rfl rfl) (by rw [kvT_look, if_neg hni]) rfl (by rw [kvT_len]; omega) ?_
          have e1 : kvT keys ++ [(((n : Nat) : Int), D.bl true)] = kvT (keys ++ [n]) := by simp [kvT]
          rw [e1]
          refine xss_aug C 3 rfl rfl ip_add rfl rfl (xe_ixT (xe_ixT (xe_deeds S (xe_v C 0 rfl rfl rfl)) (xe_v C 9 rfl rfl rfl) rfl (atI_nat (encDs_get hng))) xe_int rfl rfl) ?_
          rw [← needAt_of hng]
          exact xss_nil ⟨keys ++ [n], tot + needAt dl n, _, rfl, mid.put hn' hni⟩
        · have hyi : n ∈ keys := by
            rw [kvT_look] at hb
            by_cases z : n ∈ keys
            · exact z
            · rw [if_neg z] at hb
              cases hb
          exact xss_nil ⟨keys, tot, _, rfl, mid.old hn' hyi⟩
      · obtain ⟨keys, tot, x9, rfl, mid⟩ := hI
        rw [natsD_len] at mid
        have inv2 := mid.fin o e hn
        refine xss_app C 4 rfl rfl rfl (xe_add (xe_sub (xe_head S (xe_v C 0 rfl rfl rfl)) (xe_to (y := .int f) (xe_v C 6 rfl rfl rfl) (by rw [hf]; rfl))) (xe_v C 3 rfl rfl rfl)) rfl rfl flen ?_
        have E : loadsD h dl i ++ [D.int (h - f + tot)] = loadsD h dl (i + 1) := by rw [loadsD_succ, inv2.load o e hf]
        rw [E]
        exact xss_nil ⟨keys, tot, _, _, _, _, _, rfl, inv2⟩
theorem c_loads_of (D : Df K mg "loads_of" s_loads_of) (hg : Glb mg) (S : StdC K CS) (c_waits_of : CalP P w K mg base 1 "waits_of" (spD CS R_waits_of)) (c_waited_for : CalP P w K mg base 2 "waited_for" (spD CS R_waited_for)) : CalP P w K mg base 3 "loads_of" (spD CS R_loads_of) :=
  mkD D hg sc_loads_of ok_loads_of (by intro _ _ h; cases h <;> rfl) (fun X hX C hr ds r hR => b_loads_of C hr (hX.std S) (hX.cal c_waits_of) (hX.cal c_waited_for) hR) (fun f fd F => F.binds fun _ _ _ _ _ _ us hl => match us, hl with | [_], _ => rfl)

inductive R_too_heavy : List D → D → Prop
  | mk {b c h : Int} {dl : List Deed} : Ok b h dl → R_too_heavy [.std c h (encDs dl)] (.lst (natsD (heavies c h dl)))
theorem b_too_heavy (C : Ctx X (defScope s_too_heavy) N_too_heavy V_too_heavy V_too_heavy G_too_heavy) (hr : Room 3 X.A) (S : StdC X.K CS) (c_loads_of : CalX X 3 "loads_of" (spD CS R_loads_of)) {ds : List D} {r : D} (hR : R_too_heavy ds r) :
    XSs X CS (defBody s_too_heavy) (startD N_too_heavy (ds.map Slot.im)) (Pr r) := by
  cases hR with
  | @mk b c h dl o =>
    have hlen := o.len
    have ll : ((loads h dl).map D.int).length = dl.length := by rw [List.length_map, loads_len]
    refine xss_retn (xe_lcP (own := [("deed", 1), ("load", 2)]) (fun i => if c < load h dl i then some (.int (i : Nat)) else none) C [0, 1, 2] [1, 2] [] (xi_et C 0 rfl (xn (xe_call c_loads_of hr (by decide) C 1 rfl (xa_cons (xe_v C 0 rfl rfl rfl) xa_nil) (argc_ds _ [_]) (.mk o))) rfl) (by decide +kernel) (by decide +kernel) (LFs_all fun d hd => ?_) (by rw [enumD_len, ll]; omega) (fun i d hd => ?_) ?_) rfl
    · obtain ⟨i, hi⟩ := List.mem_iff_getElem?.mp hd
      obtain ⟨d', h1, rfl⟩ := enumD_of hi
      have := LFs_get (LFs_ints _) h1
      simp [LF, LFs, this]
    · obtain ⟨d', h1, rfl⟩ := enumD_of hd
      obtain ⟨hi, rfl⟩ : i < dl.length ∧ d' = .int (load h dl i) := by
        rw [List.getElem?_map] at h1
        cases q : (loads h dl)[i]? with
        | none => rw [q] at h1; cases h1
        | some l =>
          rw [q] at h1
          have hi := (List.getElem?_eq_some_iff.mp q).1
          rw [loads_len] at hi
          refine ⟨hi, ?_⟩
          have := (Option.some.inj h1).symm
          rw [this]
          unfold loads at q
          rw [List.getElem?_map, List.getElem?_range hi] at q
          rw [← Option.some.inj q]
      refine ⟨_, _, decide (c < load h dl i), rfl, fun Y hB D => (xg_t D (xgs_cons (xg_n D 1 rfl rfl (lt_of rfl)) (xgs_cons (xg_n D 2 rfl rfl (lt_of rfl)) xgs_nil)) rfl), fun Y hB D => (xts_one (xt_gt (xe_v D 2 rfl rfl rfl) (xe_cells (S.blk hB) (xe_v D 0 rfl rfl rfl)))), fun hb => ⟨_, if_pos (of_decide_eq_true hb), fun Y hB D => (xe_v D 1 rfl rfl rfl), rfl⟩, fun hb => if_neg (of_decide_eq_false hb), rfl⟩
    · rw [enumD_len, ll]
      unfold heavies natsD
      rw [← List.filterMap_eq_map, ← List.filterMap_eq_map, ← List.filterMap_eq_filter, List.filterMap_filterMap, List.filterMap_filterMap]
      congr 1
      funext i
      by_cases z : c < load h dl i <;> simp [z, Option.guard]
theorem c_too_heavy (D : Df K mg "too_heavy" s_too_heavy) (hg : Glb mg) (S : StdC K CS) (c_loads_of : CalP P w K mg base 3 "loads_of" (spD CS R_loads_of)) : CalP P w K mg base 4 "too_heavy" (spD CS R_too_heavy) :=
  mkD D hg sc_too_heavy ok_too_heavy (by intro _ _ h; cases h <;> rfl) (fun X hX C hr ds r hR => b_too_heavy C hr (hX.std S) (hX.cal c_loads_of) hR) (fun f fd F => F.binds fun _ _ _ _ _ _ us hl => match us, hl with | [_], _ => rfl)
inductive R_easy : List D → D → Prop
  | mk {b c h : Int} {dl : List Deed} : Ok b h dl → R_easy [.std c h (encDs dl)] (.bl (fineB c h dl))
theorem b_easy (C : Ctx X (defScope s_easy) N_easy V_easy V_easy G_easy) (hr : Room 4 X.A) (c_too_heavy : CalX X 4 "too_heavy" (spD CS R_too_heavy)) {ds : List D} {r : D} (hR : R_easy ds r) :
    XSs X CS (defBody s_easy) (startD N_easy (ds.map Slot.im)) (Pr r) := by
  cases hR with
  | @mk b c h dl o =>
    refine xss_ret (xe_b (xe_eq (xe_len C 0 rfl (xe_call c_too_heavy hr (by decide) C 1 rfl (xa_cons (xe_v C 0 rfl rfl rfl) xa_nil) (argc_ds _ [_]) (.mk o)) (.inl rfl)) xe_int opd_eqI) ?_) rfl rfl
    rw [← heavies_nil, natsD_len]
    by_cases z : (heavies c h dl).length = 0
    · rw [z]; rfl
    · rw [decide_eq_false z, decide_eq_false (by omega)]
theorem c_easy (D : Df K mg "easy" s_easy) (hg : Glb mg) (c_too_heavy : CalP P w K mg base 4 "too_heavy" (spD CS R_too_heavy)) : CalP P w K mg base 5 "easy" (spD CS R_easy) :=
  mkD D hg sc_easy ok_easy (by intro _ _ h; cases h <;> rfl) (fun X hX C hr ds r hR => b_easy C hr (hX.cal c_too_heavy) hR) (fun f fd F => F.binds fun _ _ _ _ _ _ us hl => match us, hl with | [_], _ => rfl)
end K06
/-! M4: wishes, what stands behind them; plain Lean. -/
namespace K06
inductive Wish where
  | row (d : Nat) (cells need : Int)
  | opn (cells need : Int) (ws : List Nat)
  | wait (d o : Nat)
abbrev dflt : Deed := ⟨none, 0, []⟩
def sortN (l : List Nat) : List Nat := l.mergeSort (fun a b => decide (a ≤ b))
theorem sortN_perm (l : List Nat) : (sortN l).Perm l := List.mergeSort_perm l _
theorem sortN_up (l : List Nat) : (sortN l).Pairwise (· ≤ ·) := by
  have := List.pairwise_mergeSort (le := fun a b : Nat => decide (a ≤ b)) (fun a b c h1 h2 => by simp only [decide_eq_true_eq] at *; omega) (fun a b => by simp only [Bool.or_eq_true, decide_eq_true_eq]; omega) l
  exact this.imp fun h => of_decide_eq_true h
theorem sortN_of {l : List Nat} (h : l.Pairwise (· ≤ ·)) : sortN l = l :=
  List.Perm.eq_of_pairwise (le := fun a b : Nat => a ≤ b) (fun _ _ _ _ p q => Nat.le_antisymm p q) (sortN_up l) h (sortN_perm l)
theorem mem_sortN {l : List Nat} {x : Nat} : x ∈ sortN l ↔ x ∈ l := (sortN_perm l).mem_iff
theorem sortN_ups {l : List Nat} (h : l.Nodup) : (sortN l).Pairwise (· < ·) := by
  have h1 := sortN_up l
  have h2 : (sortN l).Nodup := (sortN_perm l).nodup_iff.mpr h
  exact (h1.and h2).imp fun ⟨a, b⟩ => by
    have : _ ≠ _ := b
    omega
/-- the begun -/
def wm (dl : List Deed) : Nat := (dl.filter fun d => d.first.isSome).length
theorem wm_iff : ∀ {dl : List Deed}, dl.Pairwise Elder → ∀ {i : Nat} {d : Deed}, dl[i]? = some d → (d.first.isSome = true ↔ i < wm dl)
  | [], _, i, d, e => by simp at e
  | x :: dl, h, i, d, e => by
    obtain ⟨h1, h2⟩ := List.pairwise_cons.mp h
    unfold wm
    cases q : x.first with
    | none =>
      have hz : (dl.filter fun d => d.first.isSome) = [] := by
        rw [List.filter_eq_nil_iff]
        intro y hy z
        rcases h1 y hy with w | ⟨a, b, w, _⟩
        · rw [w] at z; cases z
        · rw [q] at w; cases w
      rw [List.filter_cons_of_neg (by rw [q]; simp), hz]
      constructor
      · intro z
        exfalso
        cases i with
        | zero =>
          cases e
          rw [q] at z
          cases z
        | succ i =>
          have hy : d ∈ dl := List.mem_of_getElem? (by simpa using e)
          rcases h1 d hy with w | ⟨a, b, w, _⟩
          · rw [w] at z; cases z
          · rw [q] at w; cases w
      · intro z
        simp at z
    | some f =>
      rw [List.filter_cons_of_pos (by rw [q]; rfl), List.length_cons]
      cases i with
      | zero =>
        cases e
        rw [q]
        simp
      | succ i =>
        have := wm_iff h2 (i := i) (d := d) (by simpa using e)
        rw [this]
        unfold wm
        omega
theorem wm_le (dl : List Deed) : wm dl ≤ dl.length := List.length_filter_le _ _

def chg (h : Int) (dl : List Deed) : Wish → List Deed
  | .row d _ n => dl.set d ⟨some ((dl.getD d dflt).first.getD h), n, (dl.getD d dflt).waits⟩
  | .opn c n ws => dl ++ [⟨if 0 < c then some h else none, n, ws⟩]
  | .wait d o => dl.set d ⟨(dl.getD d dflt).first, (dl.getD d dflt).need, sortN ((dl.getD d dflt).waits ++ [o])⟩
/-- d put at w -/
def insAt (l : List Nat) (w d : Nat) : List Nat := l.take w ++ [d] ++ l.drop w
def ordr (dl : List Deed) : Wish → List Nat
  | .row d _ _ => if (dl.getD d dflt).first = none then insAt ((List.range dl.length).erase d) (wm dl) d else List.range dl.length
  | .opn c _ _ => if 0 < c then insAt (List.range dl.length) (wm dl) dl.length else List.range (dl.length + 1)
  | .wait _ _ => List.range dl.length
def more : Wish → Int
  | .row _ c _ => c
  | .opn c _ _ => c
  | .wait _ _ => 0
def numb (dl : List Deed) (ord : List Nat) : List Deed := ord.map fun i => ⟨(dl.getD i dflt).first, (dl.getD i dflt).need, sortN ((dl.getD i dflt).waits.map fun j => ord.idxOf j)⟩
def bh (h : Int) (dl : List Deed) (w : Wish) : List Deed := numb (chg h dl w) (ordr dl w)
/-- a wish as it is drawn -/
inductive OkW (b : Int) (dl : List Deed) : Wish → Prop
  | row {d : Nat} {c n : Int} : d < dl.length → 1 ≤ c → c ≤ 5 → 0 ≤ n → n ≤ b + 5 → OkW b dl (.row d c n)
  | opn {c n : Int} {ws : List Nat} : 0 ≤ c → c ≤ 5 → 0 ≤ n → n ≤ b + 5 → Asc ws dl.length → dl.length < 30 → OkW b dl (.opn c n ws)
  | wait {d o : Nat} : d < dl.length → o < dl.length → d ≠ o → o ∉ (dl.getD d dflt).waits → ¬ Reach (wts dl) [o] d → OkW b dl (.wait d o)

theorem getD_of {dl : List Deed} {i : Nat} {d : Deed} (h : dl[i]? = some d) : dl.getD i dflt = d := by rw [List.getD_eq_getElem?_getD, h]; rfl
theorem getD_some {dl : List Deed} {i : Nat} (h : i < dl.length) : dl[i]? = some (dl.getD i dflt) := by
  rw [List.getD_eq_getElem?_getD, List.getElem?_eq_getElem h]
  rfl
/-- deeds that may be numbered anew -/
structure Ok0 (b h : Int) (dl : List Deed) (ord : List Nat) : Prop where
  len : dl.length ≤ 30
  h0 : 0 ≤ h
  hb : h ≤ b
  need : ∀ d ∈ dl, 0 ≤ d.need ∧ d.need ≤ b
  fst : ∀ d ∈ dl, ∀ f, d.first = some f → 0 ≤ f ∧ f < h
  wt : ∀ (i : Nat) (d : Deed), dl[i]? = some d → d.waits.Nodup ∧ ∀ x ∈ d.waits, x < dl.length
  ac : Acyc (wts dl)
  perm : ord.Perm (List.range dl.length)
  up : ord.Pairwise fun i j => Elder (dl.getD i dflt) (dl.getD j dflt)
theorem idxOf_get {l : List Nat} (nd : l.Nodup) {i x : Nat} (h : l[i]? = some x) : l.idxOf x = i := by
  obtain ⟨h1, h2⟩ := List.getElem?_eq_some_iff.mp h
  rw [← h2]
  exact nd.idxOf_getElem i h1
theorem idxOf_inj {l : List Nat} {x y : Nat} (hx : x ∈ l) (hy : y ∈ l) (e : l.idxOf x = l.idxOf y) : x = y := by
  have h1 := List.idxOf_lt_length_of_mem hx
  have h2 := List.getElem_idxOf h1
  have h3 := List.getElem_idxOf (List.idxOf_lt_length_of_mem hy)
  rw [← h2, ← h3]
  congr 1
theorem numb_ok {b h : Int} {dl : List Deed} {ord : List Nat} (o : Ok0 b h dl ord) : Ok b h (numb dl ord) := by
  have nd : ord.Nodup := o.perm.nodup_iff.mpr List.nodup_range
  have hmem : ∀ x, x ∈ ord ↔ x < dl.length := fun x => by rw [o.perm.mem_iff, List.mem_range]
  have hlen : ord.length = dl.length := by rw [o.perm.length_eq, List.length_range]
  have hget : ∀ (i : Nat) (d : Deed), (numb dl ord)[i]? = some d → ∃ x y, ord[i]? = some x ∧ dl[x]? = some y ∧ d = ⟨y.first, y.need, sortN (y.waits.map fun j => ord.idxOf j)⟩ := fun i d e => by
    unfold numb at e
    rw [List.getElem?_map] at e
    cases q : ord[i]? with
    | none => rw [q] at e; cases e
    | some x =>
      rw [q] at e
      have hx := (hmem x).mp (List.mem_of_getElem? q)
      exact ⟨x, dl.getD x dflt, rfl, getD_some hx, (Option.some.inj e).symm⟩
  have hnl : (numb dl ord).length = dl.length := by rw [numb, List.length_map, hlen]
  refine ⟨by rw [hnl]; exact o.len, o.h0, o.hb, fun d hd => ?_, fun d hd => ?_, ?_, fun i d e => ?_, ?_⟩
  · obtain ⟨i, hi⟩ := List.mem_iff_getElem?.mp hd
    obtain ⟨x, y, h1, h2, rfl⟩ := hget i d hi
    exact o.need y (List.mem_of_getElem? h2)
  · obtain ⟨i, hi⟩ := List.mem_iff_getElem?.mp hd
    obtain ⟨x, y, h1, h2, rfl⟩ := hget i d hi
    exact o.fst y (List.mem_of_getElem? h2)
  · unfold numb
    rw [List.pairwise_map]
    exact o.up.imp fun h => h
  · obtain ⟨x, y, h1, h2, rfl⟩ := hget i d e
    obtain ⟨w1, w2⟩ := o.wt x y h2
    rw [hnl]
    refine ⟨sortN_ups ?_, fun z hz => ?_⟩
    · rw [List.nodup_iff_pairwise_ne, List.pairwise_map]
      refine (List.nodup_iff_pairwise_ne.mp w1).imp_of_mem fun {a c} ha hc hac => fun z => ?_
      exact hac (idxOf_inj ((hmem a).mpr (w2 a ha)) ((hmem c).mpr (w2 c hc)) z)
    · obtain ⟨j, hj, rfl⟩ := List.mem_map.mp (mem_sortN.mp hz)
      rw [← hlen]
      exact List.idxOf_lt_length_of_mem ((hmem j).mpr (w2 j hj))
  · obtain ⟨rk, hr⟩ := o.ac
    refine ⟨fun i => rk (ord.getD i 0), fun i l hl j hj => ?_⟩
    unfold wts at hl
    rw [List.getElem?_map] at hl
    cases q : (numb dl ord)[i]? with
    | none => rw [q] at hl; cases hl
    | some d =>
      rw [q] at hl
      obtain ⟨x, y, h1, h2, rfl⟩ := hget i d q
      cases hl
      obtain ⟨k, hk, rfl⟩ := List.mem_map.mp (mem_sortN.mp hj)
      have hkm : k ∈ ord := (hmem k).mpr ((o.wt x y h2).2 k hk)
      have e1 : ord.getD (ord.idxOf k) 0 = k := by
        rw [List.getD_eq_getElem?_getD, List.getElem?_eq_getElem (List.idxOf_lt_length_of_mem hkm), Option.getD_some, List.getElem_idxOf]
      have e2 : ord.getD i 0 = x := by rw [List.getD_eq_getElem?_getD, h1]; rfl
      show rk (ord.getD (ord.idxOf k) 0) < rk (ord.getD i 0)
      rw [e1, e2]
      exact hr x y.waits (wts_get h2) k hk

/-! ### what is changed -/
theorem chg_len (h : Int) (dl : List Deed) (w : Wish) : (chg h dl w).length = dl.length + (match w with | .opn _ _ _ => 1 | _ => 0) := by cases w <;> simp [chg]
theorem wts_set {dl : List Deed} {d : Nat} {x : Deed} (hd : d < dl.length) (hx : x.waits = (dl.getD d dflt).waits) : wts (dl.set d x) = wts dl := by
  unfold wts
  rw [List.map_set, hx]
  refine List.ext_getElem? fun i => ?_
  by_cases e : d = i
  · subst e
    rw [List.getElem?_set_self (by simpa using hd), List.getElem?_map, getD_some hd]
    rfl
  · rw [List.getElem?_set_ne e]
theorem elder_of {a b a' b' : Deed} (h : Elder a b) (e1 : a'.first = a.first) (e2 : b'.first = b.first) : Elder a' b' := by
  unfold Elder at *
  rw [e1, e2]
  exact h
theorem range_elder {b h : Int} {dl : List Deed} (o : Ok b h dl) {n : Nat} (hn : n ≤ dl.length) : (List.range n).Pairwise fun i j => Elder (dl.getD i dflt) (dl.getD j dflt) := by
  refine List.pairwise_lt_range.imp_of_mem fun {i j} hi hj hij => ?_
  have hi' := List.mem_range.mp hi
  have hj' := List.mem_range.mp hj
  exact o.elder (getD_some (by omega)) (getD_some (by omega)) hij
theorem mem_dl {dl : List Deed} {i : Nat} (h : i < dl.length) : dl.getD i dflt ∈ dl := List.mem_of_getElem? (getD_some h)
theorem acyc_mem {ws ws' : List (List Nat)} (h : Acyc ws) (e : ∀ (i : Nat) (l : List Nat), ws'[i]? = some l → ∃ l', ws[i]? = some l' ∧ ∀ x ∈ l, x ∈ l') : Acyc ws' := by
  obtain ⟨rk, hr⟩ := h
  exact ⟨rk, fun i l hl j hj => by
    obtain ⟨l', h1, h2⟩ := e i l hl
    exact hr i l' h1 j (h2 j hj)⟩
theorem acyc_more {ws : List (List Nat)} (h : Acyc ws) (hw : WfW ws) {l : List Nat} (hl : ∀ x ∈ l, x < ws.length) : Acyc (ws ++ [l]) := by
  obtain ⟨rk, hr⟩ := h
  have hle : ∀ (n j : Nat), j < n → rk j ≤ ((List.range n).map rk).sum := fun n => by
    induction n with
    | zero => intro j hj; omega
    | succ n ih =>
      intro j hj
      rw [List.range_succ, List.map_append, List.sum_append]
      simp only [List.map_cons, List.map_nil, List.sum_cons, List.sum_nil]
      by_cases e : j = n
      · subst e; omega
      · have := ih j (by omega); omega
  refine ⟨fun i => if i < ws.length then rk i else ((List.range ws.length).map rk).sum + 1, fun i m hm j hj => ?_⟩
  by_cases hi : i < ws.length
  · rw [List.getElem?_append_left hi] at hm
    have hj' := hw i m hm j hj
    show (if j < ws.length then _ else _) < (if i < ws.length then _ else _)
    rw [if_pos hi, if_pos hj']
    exact hr i m hm j hj
  · have hi2 : i = ws.length := by
      have := (List.getElem?_eq_some_iff.mp hm).1
      rw [List.length_append, List.length_singleton] at this
      omega
    subst hi2
    rw [List.getElem?_concat_length] at hm
    cases hm
    show (if j < ws.length then _ else _) < (if ws.length < ws.length then _ else _)
    rw [if_neg (Nat.lt_irrefl _), if_pos (hl j hj)]
    have := hle ws.length j (hl j hj)
    omega
open Classical in
theorem acyc_wait {ws : List (List Nat)} (h : Acyc ws) {d o : Nat} (no : ¬ Reach ws [o] d) {ws' : List (List Nat)} (e : ∀ (i : Nat) (l : List Nat), ws'[i]? = some l → ∃ l', ws[i]? = some l' ∧ ∀ x ∈ l, x ∈ l' ∨ (i = d ∧ x = o)) : Acyc ws' := by
  obtain ⟨rk, hr⟩ := h
  refine ⟨fun i => if Reach ws [i] d then rk i + rk o + 1 else rk i, fun i l hl j hj => ?_⟩
  obtain ⟨l', h1, h2⟩ := e i l hl
  show (if Reach ws [j] d then _ else _) < (if Reach ws [i] d then _ else _)
  rcases h2 j hj with z | ⟨rfl, rfl⟩
  · have hlt := hr i l' h1 j z
    by_cases q : Reach ws [j] d
    · have q2 : Reach ws [i] d := q.mono fun x hx => by
        rw [List.mem_singleton.mp hx]
        exact .step (.base (by simp)) h1 z
      rw [if_pos q, if_pos q2]
      omega
    · rw [if_neg q]
      by_cases q2 : Reach ws [i] d
      · rw [if_pos q2]; omega
      · rw [if_neg q2]; omega
  · rw [if_neg no, if_pos (.base (by simp))]
    omega
theorem insAt_perm (l : List Nat) (w d : Nat) : (insAt l w d).Perm (d :: l) := by
  unfold insAt
  have := List.perm_middle (a := d) (l₁ := l.take w) (l₂ := l.drop w)
  rw [List.append_assoc]
  refine this.trans ?_
  rw [List.take_append_drop]
theorem erase_range_take {n d w : Nat} (hw : w ≤ d) (hd : d < n) : ((List.range n).erase d).take w = List.range w := by
  have e : (List.range n).erase d = List.range d ++ (List.range' (d + 1) (n - (d + 1))) := by
    have hs : List.range n = List.range d ++ d :: List.range' (d + 1) (n - (d + 1)) := by
      have e1 : n = d + (n - d) := by omega
      have e2 : n - d = (n - (d + 1)) + 1 := by omega
      rw [List.range_eq_range', List.range_eq_range']
      conv => lhs; rw [e1]
      rw [← List.range'_append_1 (s := 0), e2, Nat.zero_add, List.range'_succ]
    rw [hs, List.erase_append_right _ (by simp), List.erase_cons_head]
  rw [e, List.take_append_of_le_length (by simpa using hw)]
  rw [List.take_range]
  congr 1
  omega
/-- one comes behind the begun, before those that have not begun -/
theorem ins_elder {b h : Int} {dl dl' : List Deed} (o : Ok b h dl) {l : List Nat} {d : Nat} (hl : ∀ x ∈ l, x < dl.length ∧ x ≠ d) (hup : l.Pairwise (· < ·)) (htake : l.take (wm dl) = List.range (wm dl)) (hf : ∀ x ∈ l, (dl'.getD x dflt).first = (dl.getD x dflt).first) (hd : (dl'.getD d dflt).first = some h) :
    (insAt l (wm dl) d).Pairwise fun i j => Elder (dl'.getD i dflt) (dl'.getD j dflt) := by
  have base : l.Pairwise fun i j => Elder (dl'.getD i dflt) (dl'.getD j dflt) := hup.imp_of_mem fun {i j} hi hj hij => elder_of (o.elder (getD_some (hl i hi).1) (getD_some (hl j hj).1) hij) (hf i hi) (hf j hj)
  have low : ∀ i ∈ l.take (wm dl), Elder (dl'.getD i dflt) (dl'.getD d dflt) := fun i hi => by
    have hi2 := List.mem_of_mem_take hi
    rw [htake] at hi
    have hlt := List.mem_range.mp hi
    have := (wm_iff o.up (getD_some (hl i hi2).1)).mpr hlt
    cases q : (dl.getD i dflt).first with
    | none => rw [q] at this; cases this
    | some f => exact .inr ⟨f, h, by rw [hf i hi2, q], hd, (o.fst _ (mem_dl (hl i hi2).1) f q).2⟩
  have high : ∀ j ∈ l.drop (wm dl), (dl'.getD j dflt).first = none := fun j hj => by
    have hj2 := List.mem_of_mem_drop hj
    rw [hf j hj2]
    have hnd : l.Nodup := up_nodup hup
    have hge : ¬ j < wm dl := fun z => by
      have h1 : j ∈ l.take (wm dl) := by rw [htake]; exact List.mem_range.mpr z
      have h2 := List.take_append_drop (wm dl) l
      rw [← h2] at hnd
      exact (List.nodup_append.mp hnd).2.2 j h1 j hj rfl
    cases q : (dl.getD j dflt).first with
    | none => rfl
    | some f => exact absurd ((wm_iff o.up (getD_some (hl j hj2).1)).mp (by rw [q]; rfl)) hge
  unfold insAt
  rw [List.append_assoc, List.pairwise_append]
  refine ⟨base.sublist (List.take_sublist _ _), ?_, fun i hi j hj => ?_⟩
  · rw [List.singleton_append, List.pairwise_cons]
    exact ⟨fun j hj => .inl (high j hj), base.sublist (List.drop_sublist _ _)⟩
  · rw [List.singleton_append] at hj
    rcases List.mem_cons.mp hj with z | z
    · rw [z]; exact low i hi
    · exact .inl (high j z)
theorem Ok.wm_le_of {b h : Int} {dl : List Deed} (o : Ok b h dl) {d : Nat} (hd : d < dl.length) (hn : (dl.getD d dflt).first = none) : wm dl ≤ d := by
  have := wm_iff o.up (getD_some hd)
  rw [hn] at this
  simp at this
  omega
theorem set_getD {dl : List Deed} {d i : Nat} {x : Deed} (hd : d < dl.length) : (dl.set d x).getD i dflt = if i = d then x else dl.getD i dflt := by
  by_cases e : i = d
  · subst e
    rw [if_pos rfl, List.getD_eq_getElem?_getD, List.getElem?_set_self hd]
    rfl
  · rw [if_neg e, List.getD_eq_getElem?_getD, List.getElem?_set_ne (Ne.symm e), List.getD_eq_getElem?_getD]
theorem app_getD {dl : List Deed} {i : Nat} {x : Deed} : (dl ++ [x]).getD i dflt = if i < dl.length then dl.getD i dflt else if i = dl.length then x else dflt := by
  by_cases e : i < dl.length
  · rw [if_pos e, List.getD_eq_getElem?_getD, List.getElem?_append_left e, List.getD_eq_getElem?_getD]
  · rw [if_neg e]
    by_cases e2 : i = dl.length
    · subst e2
      rw [if_pos rfl, List.getD_eq_getElem?_getD, List.getElem?_concat_length]
      rfl
    · rw [if_neg e2, List.getD_eq_getElem?_getD, List.getElem?_eq_none (by simp; omega)]
      rfl
theorem mem_set {dl : List Deed} {d : Nat} {x y : Deed} (h : y ∈ dl.set d x) : y ∈ dl ∨ y = x := List.mem_or_eq_of_mem_set h
theorem bh0 {b h : Int} {dl : List Deed} {w : Wish} (o : Ok b h dl) (k : OkW b dl w) : Ok0 (b + 5) (h + more w) (chg h dl w) (ordr dl w) := by
  have h0 := o.h0
  have hb := o.hb
  cases k with
  | @row d c n hd c1 c2 n1 n2 =>
    have hmd := mem_dl hd
    have hwt := o.wt d _ (getD_some hd)
    have hw : wts (chg h dl (.row d c n)) = wts dl := wts_set hd rfl
    have hl : (chg h dl (.row d c n)).length = dl.length := by simp [chg]
    refine ⟨by rw [hl]; exact o.len, by show 0 ≤ h + c; omega, by show h + c ≤ b + 5; omega, fun x hx => ?_, fun x hx f hf => ?_, fun i x e => ?_, by rw [hw]; exact o.ac, ?_, ?_⟩
    · rcases mem_set hx with z | z
      · have := o.need x z; omega
      · rw [z]; exact ⟨n1, n2⟩
    · show 0 ≤ f ∧ f < h + c
      rcases mem_set hx with z | z
      · have := o.fst x z f hf; omega
      · rw [z] at hf
        have hf' : (dl.getD d dflt).first.getD h = f := Option.some.inj hf
        cases q : (dl.getD d dflt).first with
        | none => rw [q] at hf'; simp at hf'; omega
        | some g =>
          rw [q] at hf'
          simp at hf'
          have := o.fst _ hmd g q
          omega
    · rw [hl]
      have e2 : (wts (chg h dl (.row d c n)))[i]? = some x.waits := wts_get e
      rw [hw] at e2
      unfold wts at e2
      rw [List.getElem?_map] at e2
      cases q : dl[i]? with
      | none => rw [q] at e2; cases e2
      | some y =>
        rw [q] at e2
        have := o.wt i y q
        rw [← Option.some.inj e2]
        exact ⟨up_nodup this.up, this.lt⟩
    · rw [hl]
      simp only [ordr]
      by_cases q : (dl.getD d dflt).first = none
      · rw [if_pos q]
        exact (insAt_perm _ _ _).trans (List.perm_cons_erase (List.mem_range.mpr hd)).symm
      · rw [if_neg q]
    · simp only [ordr]
      by_cases q : (dl.getD d dflt).first = none
      · rw [if_pos q]
        have hsub : ((List.range dl.length).erase d).Sublist (List.range dl.length) := List.erase_sublist
        refine ins_elder o (dl' := chg h dl (.row d c n)) (fun x hx => ?_) (List.pairwise_lt_range.sublist hsub) (erase_range_take (o.wm_le_of hd q) hd) (fun x hx => ?_) ?_
        · have := (List.nodup_range.mem_erase_iff).mp hx
          exact ⟨List.mem_range.mp this.2, this.1⟩
        · have := (List.nodup_range.mem_erase_iff).mp hx
          show ((dl.set d _).getD x dflt).first = _
          rw [set_getD hd, if_neg this.1]
        · show ((dl.set d _).getD d dflt).first = _
          rw [set_getD hd, if_pos rfl, q]
          rfl
      · rw [if_neg q]
        refine (range_elder o (Nat.le_refl _)).imp_of_mem fun {i j} hi hj he => ?_
        have hfx : ∀ i, ((chg h dl (.row d c n)).getD i dflt).first = (dl.getD i dflt).first := fun i => by
          show ((dl.set d _).getD i dflt).first = _
          rw [set_getD hd]
          by_cases e : i = d
          · rw [if_pos e, e]
            cases y : (dl.getD d dflt).first with
            | none => exact absurd y q
            | some g => rfl
          · rw [if_neg e]
        exact elder_of he (hfx i) (hfx j)
  | @opn c n ws c1 c2 n1 n2 hws hlt =>
    have hl : (chg h dl (.opn c n ws)).length = dl.length + 1 := by simp [chg]
    have hw : wts (chg h dl (.opn c n ws)) = wts dl ++ [ws] := by simp [chg, wts]
    refine ⟨by rw [hl]; omega, by show 0 ≤ h + c; omega, by show h + c ≤ b + 5; omega, fun x hx => ?_, fun x hx f hf => ?_, fun i x e => ?_, ?_, ?_, ?_⟩
    · rcases List.mem_append.mp hx with z | z
      · have := o.need x z; omega
      · rw [List.mem_singleton.mp z]; exact ⟨n1, n2⟩
    · show 0 ≤ f ∧ f < h + c
      rcases List.mem_append.mp hx with z | z
      · have := o.fst x z f hf; omega
      · rw [List.mem_singleton.mp z] at hf
        by_cases q : 0 < c
        · rw [show (if 0 < c then some h else none) = some h from if_pos q] at hf
          have := Option.some.inj hf
          omega
        · rw [show (if 0 < c then some h else none) = none from if_neg q] at hf
          cases hf
    · rw [hl]
      have e' : (dl ++ [⟨if 0 < c then some h else none, n, ws⟩])[i]? = some x := e
      by_cases hi : i < dl.length
      · rw [List.getElem?_append_left hi] at e'
        have := o.wt i x e'
        exact ⟨up_nodup this.up, fun y hy => Nat.lt_succ_of_lt (this.lt y hy)⟩
      · have hi2 : i = dl.length := by
          have := (List.getElem?_eq_some_iff.mp e').1
          simp at this
          omega
        subst hi2
        rw [List.getElem?_concat_length] at e'
        cases e'
        exact ⟨up_nodup hws.up, fun y hy => Nat.lt_succ_of_lt (hws.lt y hy)⟩
    · rw [hw]
      exact acyc_more o.ac o.wf (by intro x hx; rw [wts_len]; exact hws.lt x hx)
    · rw [hl]
      simp only [ordr]
      by_cases q : 0 < c
      · rw [if_pos q]
        rw [List.range_succ]
        exact (insAt_perm _ _ _).trans (List.perm_append_singleton _ _).symm
      · rw [if_neg q]
    · have hfx : ∀ x, x < dl.length → ((chg h dl (.opn c n ws)).getD x dflt).first = (dl.getD x dflt).first := fun x hx => by
        show ((dl ++ [_]).getD x dflt).first = _
        rw [app_getD, if_pos hx]
      simp only [ordr]
      by_cases q : 0 < c
      · rw [if_pos q]
        refine ins_elder o (dl' := chg h dl (.opn c n ws)) (fun x hx => ?_) List.pairwise_lt_range ?_ (fun x hx => hfx x (List.mem_range.mp hx)) ?_
        · have := List.mem_range.mp hx
          omega
        · rw [List.take_range]
          congr 1
          have := wm_le dl
          omega
        · show ((dl ++ [_]).getD dl.length dflt).first = _
          rw [app_getD, if_neg (Nat.lt_irrefl _), if_pos rfl]
          exact if_pos q
      · rw [if_neg q]
        rw [List.range_succ, List.pairwise_append]
        refine ⟨(range_elder o (Nat.le_refl _)).imp_of_mem fun {i j} hi hj he => elder_of he (hfx i (List.mem_range.mp hi)) (hfx j (List.mem_range.mp hj)), List.pairwise_singleton _ _, fun i hi j hj => ?_⟩
        rw [List.mem_singleton.mp hj]
        refine .inl ?_
        show ((dl ++ [_]).getD dl.length dflt).first = _
        rw [app_getD, if_neg (Nat.lt_irrefl _), if_pos rfl]
        exact if_neg q
  | @wait d p hd hp hne hni hno =>
    have hmd := mem_dl hd
    have hwt := o.wt d _ (getD_some hd)
    have hl : (chg h dl (.wait d p)).length = dl.length := by simp [chg]
    have hfx : ∀ i, ((chg h dl (.wait d p)).getD i dflt).first = (dl.getD i dflt).first := fun i => by
      show ((dl.set d _).getD i dflt).first = _
      rw [set_getD hd]
      by_cases e : i = d
      · rw [if_pos e, e]
      · rw [if_neg e]
    have hgt : ∀ (i : Nat) (x : Deed), (chg h dl (.wait d p))[i]? = some x → i < dl.length ∧ x = if i = d then ⟨(dl.getD d dflt).first, (dl.getD d dflt).need, sortN ((dl.getD d dflt).waits ++ [p])⟩ else dl.getD i dflt := fun i x e => by
      have hi := (List.getElem?_eq_some_iff.mp e).1
      rw [hl] at hi
      refine ⟨hi, ?_⟩
      rw [← set_getD hd]
      exact (getD_of e).symm
    refine ⟨by rw [hl]; exact o.len, by show 0 ≤ h + 0; omega, by show h + 0 ≤ b + 5; omega, fun x hx => ?_, fun x hx f hf => ?_, fun i x e => ?_, ?_, by rw [hl]; exact List.Perm.refl _, ?_⟩
    · rcases mem_set hx with z | z
      · have := o.need x z; omega
      · rw [z]
        have := o.need _ hmd
        exact ⟨this.1, by show (dl.getD d dflt).need ≤ b + 5; omega⟩
    · show 0 ≤ f ∧ f < h + 0
      rw [Int.add_zero]
      rcases mem_set hx with z | z
      · exact o.fst x z f hf
      · rw [z] at hf
        exact o.fst _ hmd f hf
    · rw [hl]
      obtain ⟨hi, hx⟩ := hgt i x e
      by_cases q : i = d
      · rw [if_pos q] at hx
        rw [hx]
        refine ⟨(sortN_perm _).nodup_iff.mpr (List.nodup_append.mpr ⟨up_nodup hwt.up, by simp, fun a ha c hc => fun z => ?_⟩), fun y hy => ?_⟩
        · rw [List.mem_singleton.mp hc] at z
          exact hni (z ▸ ha)
        · rcases List.mem_append.mp (mem_sortN.mp hy) with z | z
          · exact hwt.lt y z
          · rw [List.mem_singleton.mp z]; exact hp
      · rw [if_neg q] at hx
        rw [hx]
        have := o.wt i _ (getD_some hi)
        exact ⟨up_nodup this.up, this.lt⟩
    · refine acyc_wait o.ac hno fun i l e => ?_
      unfold wts at e
      rw [List.getElem?_map] at e
      cases q : (chg h dl (.wait d p))[i]? with
      | none => rw [q] at e; cases e
      | some x =>
        rw [q] at e
        cases e
        obtain ⟨hi, hx⟩ := hgt i x q
        refine ⟨(dl.getD i dflt).waits, wts_get (getD_some hi), fun y hy => ?_⟩
        by_cases z : i = d
        · rw [if_pos z] at hx
          rw [hx] at hy
          rcases List.mem_append.mp (mem_sortN.mp hy) with t | t
          · exact .inl (z ▸ t)
          · exact .inr ⟨z, List.mem_singleton.mp t⟩
        · rw [if_neg z] at hx
          rw [hx] at hy
          exact .inl hy
    · show (List.range dl.length).Pairwise _
      exact (range_elder o (Nat.le_refl _)).imp_of_mem fun {i j} hi hj he => elder_of he (hfx i) (hfx j)
theorem bh_ok {b h : Int} {dl : List Deed} {w : Wish} (o : Ok b h dl) (k : OkW b dl w) : Ok (b + 5) (h + more w) (bh h dl w) := numb_ok (bh0 o k)
theorem bh_len {b h : Int} {dl : List Deed} {w : Wish} (o : Ok b h dl) (k : OkW b dl w) : (bh h dl w).length ≤ dl.length + 1 := by
  have := (bh0 o k).perm.length_eq
  rw [bh, numb, List.length_map, this, List.length_range, chg_len]
  cases w <;> simp
theorem numb_range {dl : List Deed} (h : ∀ (i : Nat) (d : Deed), dl[i]? = some d → d.waits.Pairwise (· ≤ ·) ∧ ∀ x ∈ d.waits, x < dl.length) : numb dl (List.range dl.length) = dl := by
  unfold numb
  refine List.ext_getElem? fun i => ?_
  rw [List.getElem?_map]
  by_cases hi : i < dl.length
  · rw [List.getElem?_range hi]
    obtain ⟨h1, h2⟩ := h i _ (getD_some hi)
    have e : (dl.getD i dflt).waits.map (fun j => (List.range dl.length).idxOf j) = (dl.getD i dflt).waits := by
      conv => rhs; rw [← List.map_id (dl.getD i dflt).waits]
      refine List.map_congr_left fun x hx => ?_
      exact idxOf_get List.nodup_range (List.getElem?_range (h2 x hx))
    simp only [Option.map_some]
    rw [e, sortN_of h1, getD_some hi]
  · rw [List.getElem?_eq_none (by simp; omega), List.getElem?_eq_none (by omega)]
    rfl
end K06
/-! D5: wishes; what stands behind them. -/
namespace K06
open PySem PySem.Spec L2
variable {P : Program} {w : World} {K : PySem.W.Frag} {mg : Str → Option Value} {base : Heap} {CS : Addr} {X : Cx}
def Wish.enc : Wish → D
  | .row d c n => .tup [.str "row", .int (d : Nat), .int c, .int n]
  | .opn c n ws => .tup [.str "open", .int c, .int n, .tup (natsD ws)]
  | .wait d o => .tup [.str "wait", .int (d : Nat), .int (o : Nat)]
theorem lf_wish (w : Wish) : LF w.enc = true := by
  cases w with
  | row d c n => rfl
  | opn c n ws =>
    have h : LFs (natsD ws) = true := LFs_nats ws
    simp only [Wish.enc, LF, LFs, h, Bool.and_true]
  | wait d o => rfl
theorem atI_c {ds : List D} {i : Nat} {x : D} (h : ds[i]? = some x) : L2.atI ds ((i : Nat) : Int) = some x := atI_nat h

/-! ### raw_standing -/
inductive R_raw : List D → D → Prop
  | mkT {c h : Int} {dl : List Deed} : R_raw [.int c, .int h, .tup (encDs dl)] (.std c h (encDs dl))
  | mkL {c h : Int} {dl : List Deed} : R_raw [.int c, .int h, .lst (encDs dl)] (.std c h (encDs dl))
abbrev R_raw_standing := R_raw
theorem std0 : R_std 1 0 [] := ⟨0, [], rfl, ⟨Nat.zero_le _, Int.le_refl _, Int.le_refl _, by simp, by simp, List.Pairwise.nil, by simp, ⟨fun _ => 0, by simp [wts]⟩⟩, by decide, Int.le_refl _, by decide, by decide⟩
theorem putStd {c h c' h' : Int} {d d' : D} : putD "deeds" d (putD "head" (.int h) (putD "cells" (.int c) [("cells", .int c'), ("head", .int h'), ("deeds", d')])) = ([("cells", .int c), ("head", .int h), ("deeds", d)] : List (Str × D)) := by
  have n1 : ¬ (("head" : Str) = "cells") := by decide +kernel
  have n2 : ¬ (("cells" : Str) = "head") := by decide +kernel
  have n3 : ¬ (("cells" : Str) = "deeds") := by decide +kernel
  have n4 : ¬ (("head" : Str) = "deeds") := by decide +kernel
  simp [putD, n1, n2, n3, n4]
theorem b_raw_standing (C : Ctx X (defScope s_raw_standing) N_raw_standing V_raw_standing V_raw_standing G_raw_standing) (hr : Room 7 X.A) (S : StdC X.K CS) (c_Standing : MakP X.prog X.w X.K X.mg X.base CS 6 "Standing" R_std) {ds : List D} {r : D} (hR : R_raw_standing ds r) :
    XSs X CS (defBody s_raw_standing) (startD N_raw_standing (ds.map Slot.im)) (Pr r) := by
  cases hR with
  | @mkT c h dl =>
    refine xss_setO C 3 rfl rfl (xe_make c_Standing hr (by decide) C 0 rfl (xa_cons xe_int (xa_cons xe_int (xa_cons (xe_tup (ds := []) xa_nil (le_of rfl)) xa_nil))) std0 rfl) rfl (fun l => ?_) (lt_of rfl)
    refine xss_fld S S.nc C 3 rfl rfl (xe_v C 0 rfl rfl rfl) rfl rfl (lt_of rfl) ?_
    refine xss_fld S S.nh C 3 rfl rfl (xe_v C 1 rfl rfl rfl) rfl rfl (lt_of rfl) ?_
    refine xss_fld S S.nd C 3 rfl rfl (xe_tupleT C 1 rfl (xe_v C 2 rfl rfl rfl) rfl) rfl (lf_encs dl) (lt_of rfl) ?_
    rw [putStd]
    exact xss_reto (k := 3) (xe_m C 3 rfl rfl rfl rfl) rfl rfl
  | @mkL c h dl =>
    refine xss_setO C 3 rfl rfl (xe_make c_Standing hr (by decide) C 0 rfl (xa_cons xe_int (xa_cons xe_int (xa_cons (xe_tup (ds := []) xa_nil (le_of rfl)) xa_nil))) std0 rfl) rfl (fun l => ?_) (lt_of rfl)
    refine xss_fld S S.nc C 3 rfl rfl (xe_v C 0 rfl rfl rfl) rfl rfl (lt_of rfl) ?_
    refine xss_fld S S.nh C 3 rfl rfl (xe_v C 1 rfl rfl rfl) rfl rfl (lt_of rfl) ?_
    refine xss_fld S S.nd C 3 rfl rfl (xe_tuple C 1 rfl (xe_v C 2 rfl rfl rfl) rfl) rfl (lf_encs dl) (lt_of rfl) ?_
    rw [putStd]
    exact xss_reto (k := 3) (xe_m C 3 rfl rfl rfl rfl) rfl rfl
theorem c_raw_standing (D : Df K mg "raw_standing" s_raw_standing) (hg : Glb mg) (S : StdC K CS) (c_Standing : MakP P w K mg base CS 6 "Standing" R_std) : CalP P w K mg base 8 "raw_standing" (spD CS R_raw_standing) :=
  mkD D hg sc_raw_standing ok_raw_standing (by intro _ _ h; cases h <;> rfl) (fun X hX C hr ds r hR => b_raw_standing C hr (hX.std S) (hX.mak c_Standing) hR) (fun f fd F => F.binds fun _ _ _ _ _ _ us hl => match us, hl with | [_, _, _], _ => rfl)

/-! ### is a wish -/
inductive R_is_deed : List D → D → Prop
  | mk {c h : Int} {dl : List Deed} {d : Nat} : d < dl.length → R_is_deed [.std c h (encDs dl), .int (d : Nat)] (.bl true)
theorem b_is_deed (C : Ctx X (defScope s_is_deed) N_is_deed V_is_deed V_is_deed G_is_deed) (hr : Room 2 X.A) (S : StdC X.K CS) (c_is_within : CalX X 2 "is_within" (spD CS R_is_within)) {ds : List D} {r : D} (hR : R_is_deed ds r) :
    XSs X CS (defBody s_is_deed) (startD N_is_deed (ds.map Slot.im)) (Pr r) := by
  cases hR with
  | @mk c h dl d hd =>
    exact xss_ret (xn (xe_call c_is_within hr (by decide) C 0 rfl (xa_cons (xe_v C 1 rfl rfl rfl) (xa_cons xe_int (xa_cons (xe_sub (xe_len C 1 rfl (xe_deeds S (xe_v C 0 rfl rfl rfl)) (.inr rfl)) xe_int) xa_nil))) (argc_ds _ [_, _, _]) (within_t (by omega) (by rw [encDs_len]; omega)))) rfl rfl
theorem c_is_deed (D : Df K mg "is_deed" s_is_deed) (hg : Glb mg) (S : StdC K CS) (c_is_within : CalP P w K mg base 2 "is_within" (spD CS R_is_within)) : CalP P w K mg base 3 "is_deed" (spD CS R_is_deed) :=
  mkD D hg sc_is_deed ok_is_deed (by intro _ _ h; cases h <;> rfl) (fun X hX C hr ds r hR => b_is_deed C hr (hX.std S) (hX.cal c_is_within) hR) (fun f fd F => F.binds fun _ _ _ _ _ _ us hl => match us, hl with | [_, _], _ => rfl)
inductive R_is_row_wish : List D → D → Prop
  | mk {c h : Int} {dl : List Deed} {d : Nat} {k n : Int} : d < dl.length → 1 ≤ k → k ≤ 10 ^ 30 → 0 ≤ n → n ≤ 10 ^ 30 → R_is_row_wish [.std c h (encDs dl), (Wish.row d k n).enc] (.bl true)
theorem b_is_row_wish (C : Ctx X (defScope s_is_row_wish) N_is_row_wish V_is_row_wish V_is_row_wish G_is_row_wish) (hr : Room 3 X.A) (mc : Cst X.mg "MOST_CELLS" (10 ^ 30)) (c_is_deed : CalX X 3 "is_deed" (spD CS R_is_deed)) (c_is_within : CalX X 2 "is_within" (spD CS R_is_within)) (c_is_number : CalX X 3 "is_number" (spD CS R_is_number)) {ds : List D} {r : D} (hR : R_is_row_wish ds r) :
    XSs X CS (defBody s_is_row_wish) (startD N_is_row_wish (ds.map Slot.im)) (Pr r) := by
  cases hR with
  | @mk c h dl d k n hd k1 k2 n1 n2 =>
    exact xss_ret (x := .bl true) (xe_and (xn (xe_call c_is_deed hr (by decide) C 0 rfl (xa_cons (xe_v C 0 rfl rfl rfl) (xa_cons (xe_ixT (xe_v C 1 rfl rfl rfl) xe_int rfl rfl) xa_nil)) (argc_ds _ [_, _]) (.mk hd))) (fun _ => (xe_and (xn (xe_call c_is_within hr (by decide) C 1 rfl (xa_cons (xe_ixT (xe_v C 1 rfl rfl rfl) xe_int rfl rfl) (xa_cons xe_int (xa_cons (xe_gi C mc 2 rfl) xa_nil))) (argc_ds _ [_, _, _]) (within_t k1 k2))) (fun _ => (xe_one (xn (xe_call c_is_number hr (by decide) C 3 rfl (xa_cons (xe_ixT (xe_v C 1 rfl rfl rfl) xe_int rfl rfl) (xa_cons (xe_gi C mc 2 rfl) xa_nil)) (argc_ds _ [_, _]) ⟨_, _, rfl, n1, n2, rfl⟩)))) (by intro z; cases z))) (by intro z; cases z)) rfl rfl
theorem c_is_row_wish (D : Df K mg "is_row_wish" s_is_row_wish) (hg : Glb mg) (mc : Cst mg "MOST_CELLS" (10 ^ 30)) (c_is_deed : CalP P w K mg base 3 "is_deed" (spD CS R_is_deed)) (c_is_within : CalP P w K mg base 2 "is_within" (spD CS R_is_within)) (c_is_number : CalP P w K mg base 3 "is_number" (spD CS R_is_number)) : CalP P w K mg base 4 "is_row_wish" (spD CS R_is_row_wish) :=
  mkD D hg sc_is_row_wish ok_is_row_wish (by intro _ _ h; cases h <;> rfl) (fun X hX C hr ds r hR => b_is_row_wish C hr (by rw [hX.m]; exact mc) (hX.cal c_is_deed) (hX.cal c_is_within) (hX.cal c_is_number) hR) (fun f fd F => F.binds fun _ _ _ _ _ _ us hl => match us, hl with | [_, _], _ => rfl)
inductive R_is_open_wish : List D → D → Prop
  | mk {c h : Int} {dl : List Deed} {k n : Int} {ws : List Nat} : dl.length < 200 → 0 ≤ k → k ≤ 10 ^ 30 → 0 ≤ n → n ≤ 10 ^ 30 → Asc ws dl.length → R_is_open_wish [.std c h (encDs dl), (Wish.opn k n ws).enc] (.bl true)
theorem b_is_open_wish (C : Ctx X (defScope s_is_open_wish) N_is_open_wish V_is_open_wish V_is_open_wish G_is_open_wish) (hr : Room 3 X.A) (S : StdC X.K CS) (mc : Cst X.mg "MOST_CELLS" (10 ^ 30)) (md : Cst X.mg "MOST_DEEDS" 200) (c_is_number : CalX X 3 "is_number" (spD CS R_is_number)) (c_is_lot : CalX X 3 "is_lot" (spD CS R_is_lot)) {ds : List D} {r : D} (hR : R_is_open_wish ds r) :
    XSs X CS (defBody s_is_open_wish) (startD N_is_open_wish (ds.map Slot.im)) (Pr r) := by
  cases hR with
  | @mk c h dl k n ws hd k1 k2 n1 n2 hw =>
    refine xss_if0 (xw (xw_or (xt_f (xt_ge (xe_len C 0 rfl (xe_deeds S (xe_v C 0 rfl rfl rfl)) (.inr rfl)) (xe_gi C md 1 rfl)) (decide_eq_false (by rw [encDs_len]; omega))) (fun _ => (xw_or (xt_not (xt_v (xn (xe_call c_is_number hr (by decide) C 2 rfl (xa_cons (xe_ixT (xe_v C 1 rfl rfl rfl) xe_int rfl rfl) (xa_cons (xe_gi C mc 3 rfl) xa_nil)) (argc_ds _ [_, _]) ⟨_, _, rfl, k1, k2, rfl⟩)))) (fun _ => (xw_or1 (xt_not (xt_v (xn (xe_call c_is_number hr (by decide) C 2 rfl (xa_cons (xe_ixT (xe_v C 1 rfl rfl rfl) xe_int rfl rfl) (xa_cons (xe_gi C mc 3 rfl) xa_nil)) (argc_ds _ [_, _]) ⟨_, _, rfl, n1, n2, rfl⟩)))))) (by intro z; cases z))) (by intro z; cases z))) (by intro z; cases z) (fun _ => ?_)
    exact xss_ret (xn (xe_call c_is_lot hr (by decide) C 4 rfl (xa_cons (xe_ixT (xe_v C 1 rfl rfl rfl) xe_int rfl rfl) (xa_cons (xe_len C 0 rfl (xe_deeds S (xe_v C 0 rfl rfl rfl)) (.inr rfl)) xa_nil)) (argc_ds _ [_, _]) ⟨ws, dl.length, by rw [encDs_len], hw, rfl⟩)) rfl rfl
theorem c_is_open_wish (D : Df K mg "is_open_wish" s_is_open_wish) (hg : Glb mg) (S : StdC K CS) (mc : Cst mg "MOST_CELLS" (10 ^ 30)) (md : Cst mg "MOST_DEEDS" 200) (c_is_number : CalP P w K mg base 3 "is_number" (spD CS R_is_number)) (c_is_lot : CalP P w K mg base 3 "is_lot" (spD CS R_is_lot)) : CalP P w K mg base 4 "is_open_wish" (spD CS R_is_open_wish) :=
  mkD D hg sc_is_open_wish ok_is_open_wish (by intro _ _ h; cases h <;> rfl) (fun X hX C hr ds r hR => b_is_open_wish C hr (hX.std S) (by rw [hX.m]; exact mc) (by rw [hX.m]; exact md) (hX.cal c_is_number) (hX.cal c_is_lot) hR) (fun f fd F => F.binds fun _ _ _ _ _ _ us hl => match us, hl with | [_, _], _ => rfl)
inductive R_is_wait_wish : List D → D → Prop
  | mk {b c h : Int} {dl : List Deed} {d o : Nat} : Ok b h dl → d < dl.length → o < dl.length → d ≠ o → o ∉ (dl.getD d dflt).waits → ¬ Reach (wts dl) [o] d → R_is_wait_wish [.std c h (encDs dl), (Wish.wait d o).enc] (.bl true)
theorem b_is_wait_wish (C : Ctx X (defScope s_is_wait_wish) N_is_wait_wish V_is_wait_wish V_is_wait_wish G_is_wait_wish) (hr : Room 3 X.A) (c_is_deed : CalX X 3 "is_deed" (spD CS R_is_deed)) (c_waits_of : CalX X 1 "waits_of" (spD CS R_waits_of)) (c_waited_for : CalX X 2 "waited_for" (spD CS R_waited_for)) {ds : List D} {r : D} (hR : R_is_wait_wish ds r) :
    XSs X CS (defBody s_is_wait_wish) (startD N_is_wait_wish (ds.map Slot.im)) (Pr r) := by
  cases hR with
  | @mk b c h dl d o ok hd ho hne hni hno =>
    have hlen := ok.len
    have hwo : ∀ y ∈ [o], y < (wts dl).length := by intro y hy; rw [wts_len, List.mem_singleton.mp hy]; exact ho
    refine xss_asg (xe_slT (xe_v C 1 rfl rfl rfl) (xo_some xe_int) xo_none rfl) (xg_t C (xgs_cons (xg_n C 2 rfl rfl (lt_of rfl)) (xgs_cons (xg_n C 3 rfl rfl (lt_of rfl)) xgs_nil)) rfl) ?_
    refine xss_if0 (xw (xw_or (xt_not (xt_v (xn (xe_call c_is_deed hr (by decide) C 0 rfl (xa_cons (xe_v C 0 rfl rfl rfl) (xa_cons (xe_v C 2 rfl rfl rfl) xa_nil)) (argc_ds _ [_, _]) (.mk hd))))) (fun _ => (xw_or (xt_not (xt_v (xn (xe_call c_is_deed hr (by decide) C 0 rfl (xa_cons (xe_v C 0 rfl rfl rfl) (xa_cons (xe_v C 3 rfl rfl rfl) xa_nil)) (argc_ds _ [_, _]) (.mk ho))))) (fun _ => (xw_or1 (xt_f (xt_eq (xe_v C 2 rfl rfl rfl) (xe_v C 3 rfl rfl rfl) opd_eqI) (decide_eq_false (by omega))))) (by intro z; cases z))) (by intro z; cases z))) (by intro z; cases z) (fun _ => ?_)
    refine xss_set C 4 rfl rfl (xn (xe_call c_waits_of hr (by decide) C 1 rfl (xa_cons (xe_v C 0 rfl rfl rfl) xa_nil) (argc_ds _ [_]) (.mk hlen))) ?_ (lt_of rfl)
    have e1 : (wts dl)[d]? = some (dl.getD d dflt).waits := wts_get (getD_some hd)
    have f1 : (!decide (((o : Nat) : Int) ∈ (dl.getD d dflt).waits.map fun i => ((i : Nat) : Int))) = true := by rw [decide_eq_false (fun z => hni (int_mem.mp z))]; rfl
    have f2 : (!decide (((d : Nat) : Int) ∈ (clo (wts dl) [o]).map fun i => ((i : Nat) : Int))) = true := by rw [decide_eq_false (fun z => hno ((mem_clo ok.wf hwo d).mp (int_mem.mp z)))]; rfl
    exact xss_ret (x := .bl true) (xe_and (xe_b (xe_notin (xe_v C 3 rfl rfl rfl) (xe_ixL (xe_v C 4 rfl rfl rfl) (xe_v C 2 rfl rfl rfl) rfl (atI_nat (encW_get e1))) (.inr rfl)) f1) (fun _ => (xe_one (xe_b (xe_notin (xe_v C 2 rfl rfl rfl) (xn (xe_call c_waited_for hr (by decide) C 2 rfl (xa_cons (xe_v C 4 rfl rfl rfl) (xa_cons (xe_tup (ds := [_]) (xa_cons (xe_v C 3 rfl rfl rfl) xa_nil) (le_of rfl)) xa_nil)) (argc_ds _ [_, _]) ⟨wts dl, [o], rfl, ok.wf, hwo, by simp, by rw [wts_len]; omega, rfl⟩)) (.inr rfl)) f2))) (by intro z; cases z)) rfl rfl
theorem c_is_wait_wish (D : Df K mg "is_wait_wish" s_is_wait_wish) (hg : Glb mg) (c_is_deed : CalP P w K mg base 3 "is_deed" (spD CS R_is_deed)) (c_waits_of : CalP P w K mg base 1 "waits_of" (spD CS R_waits_of)) (c_waited_for : CalP P w K mg base 2 "waited_for" (spD CS R_waited_for)) : CalP P w K mg base 4 "is_wait_wish" (spD CS R_is_wait_wish) :=
  mkD D hg sc_is_wait_wish ok_is_wait_wish (by intro _ _ h; cases h <;> rfl) (fun X hX C hr ds r hR => b_is_wait_wish C hr (hX.cal c_is_deed) (hX.cal c_waits_of) (hX.cal c_waited_for) hR) (fun f fd F => F.binds fun _ _ _ _ _ _ us hl => match us, hl with | [_, _], _ => rfl)
inductive R_is_wish : List D → D → Prop
  | mk {b c h : Int} {dl : List Deed} {w : Wish} : Ok b h dl → OkW b dl w → b + 5 ≤ 10 ^ 30 → R_is_wish [.std c h (encDs dl), w.enc] (.bl true)
theorem b_is_wish (C : Ctx X (defScope s_is_wish) N_is_wish V_is_wish V_is_wish G_is_wish) (hr : Room 4 X.A) (Z : SzC X.K X.w X.mg) (mr : CstS X.mg "ROW" "row") (mo : CstS X.mg "OPEN" "open") (mw : CstS X.mg "WAIT" "wait")
    (c_is_row_wish : CalX X 4 "is_row_wish" (spD CS R_is_row_wish)) (c_is_open_wish : CalX X 4 "is_open_wish" (spD CS R_is_open_wish)) (c_is_wait_wish : CalX X 4 "is_wait_wish" (spD CS R_is_wait_wish)) {ds : List D} {r : D} (hR : R_is_wish ds r) :
    XSs X CS (defBody s_is_wish) (startD N_is_wish (ds.map Slot.im)) (Pr r) := by
  have hu : X.A.units + 1 < cLine := hu_of hr
  have n12 : ¬ (("row" : Str) = "open") := by decide +kernel
  have n13 : ¬ (("row" : Str) = "wait") := by decide +kernel
  have n23 : ¬ (("open" : Str) = "wait") := by decide +kernel
  obtain ⟨f1, _, _, _, hf1, _⟩ := c_is_row_wish.ex
  obtain ⟨f2, _, _, _, hf2, _⟩ := c_is_open_wish.ex
  obtain ⟨f3, _, _, _, hf3, _⟩ := c_is_wait_wish.ex
  cases hR with
  | @mk b c h dl w ok k hb =>
    cases k with
    | @row d c' n hd c1 c2 n1 n2 =>
      refine xss_if0 (xw (xw_or (xt_not (xt_v (xe_isi C 0 rfl (xe_v C 1 rfl rfl rfl) (xe_bt (T := "tuple") C 1 rfl C.glb.tuple (by decide +kernel)) (q := true) rfl (by decide +kernel)))) (fun _ => (xw_or (xt_f (xt_lt (xe_len C 2 rfl (xe_v C 1 rfl rfl rfl) (.inr rfl)) xe_int) rfl) (fun _ => (xw_or1 (xt_not (xt_v (xe_isi C 0 rfl (xe_ixT (xe_v C 1 rfl rfl rfl) xe_int rfl rfl) (xe_bt (T := "str") C 3 rfl C.glb.str (by decide +kernel)) (q := true) rfl (by decide +kernel)))))) (by intro z; cases z))) (by intro z; cases z))) (by intro z; cases z) (fun _ => ?_)
      refine xss_if0 (xt_f (xt_ne (xe_kget (q := 4) Z C 4 rfl (xe_ixT (xe_v C 1 rfl rfl rfl) xe_int rfl rfl) xe_int (by simp)) (xe_len C 2 rfl (xe_v C 1 rfl rfl rfl) (.inr rfl)) opd_neI) rfl) (by intro z; cases z) (fun _ => ?_)
      refine xss_set C 2 rfl rfl (xe_disp3 (fx := f1) hu (xe_gs C mr 5 rfl) (xe_gs C mo 6 rfl) (xe_gs C mw 7 rfl) (xe_g (v := .ref f1) C 8 rfl hf1 rfl (fun _ _ => rfl)) (xe_g (v := .ref f2) C 9 rfl hf2 rfl (fun _ _ => rfl)) (xe_g (v := .ref f3) C 10 rfl hf3 rfl (fun _ _ => rfl)) (xe_ixT (xe_v C 1 rfl rfl rfl) xe_int rfl rfl) (by simp [List.lookup]) n12 n13 n23) ?_ (lt_of rfl)
      exact xss_ret (xn (xe_callL c_is_row_wish hf1 hr (by decide) C 2 rfl rfl (xa_cons (xe_v C 0 rfl rfl rfl) (xa_cons (xe_v C 1 rfl rfl rfl) xa_nil)) rfl (argc_ds _ [_, _]) (.mk hd c1 (by omega) n1 (by omega)))) rfl rfl
    | @opn c' n ws c1 c2 n1 n2 hws hlt =>
      refine xss_if0 (xw (xw_or (xt_not (xt_v (xe_isi C 0 rfl (xe_v C 1 rfl rfl rfl) (xe_bt (T := "tuple") C 1 rfl C.glb.tuple (by decide +kernel)) (q := true) rfl (by decide +kernel)))) (fun _ => (xw_or (xt_f (xt_lt (xe_len C 2 rfl (xe_v C 1 rfl rfl rfl) (.inr rfl)) xe_int) rfl) (fun _ => (xw_or1 (xt_not (xt_v (xe_isi C 0 rfl (xe_ixT (xe_v C 1 rfl rfl rfl) xe_int rfl rfl) (xe_bt (T := "str") C 3 rfl C.glb.str (by decide +kernel)) (q := true) rfl (by decide +kernel)))))) (by intro z; cases z))) (by intro z; cases z))) (by intro z; cases z) (fun _ => ?_)
      refine xss_if0 (xt_f (xt_ne (xe_kget (q := 4) Z C 4 rfl (xe_ixT (xe_v C 1 rfl rfl rfl) xe_int rfl rfl) xe_int (by simp)) (xe_len C 2 rfl (xe_v C 1 rfl rfl rfl) (.inr rfl)) opd_neI) rfl) (by intro z; cases z) (fun _ => ?_)
      refine xss_set C 2 rfl rfl (xe_disp3 (fx := f2) hu (xe_gs C mr 5 rfl) (xe_gs C mo 6 rfl) (xe_gs C mw 7 rfl) (xe_g (v := .ref f1) C 8 rfl hf1 rfl (fun _ _ => rfl)) (xe_g (v := .ref f2) C 9 rfl hf2 rfl (fun _ _ => rfl)) (xe_g (v := .ref f3) C 10 rfl hf3 rfl (fun _ _ => rfl)) (xe_ixT (xe_v C 1 rfl rfl rfl) xe_int rfl rfl) (by rw [List.lookup_cons, show ((("open" : Str) == ("row" : Str)) : Bool) = false by decide +kernel]; simp [List.lookup]) n12 n13 n23) ?_ (lt_of rfl)
      exact xss_ret (xn (xe_callL c_is_open_wish hf2 hr (by decide) C 2 rfl rfl (xa_cons (xe_v C 0 rfl rfl rfl) (xa_cons (xe_v C 1 rfl rfl rfl) xa_nil)) rfl (argc_ds _ [_, _]) (.mk (by omega) c1 (by omega) n1 (by omega) hws))) rfl rfl
    | @wait d p hd hp hne hni hno =>
      refine xss_if0 (xw (xw_or (xt_not (xt_v (xe_isi C 0 rfl (xe_v C 1 rfl rfl rfl) (xe_bt (T := "tuple") C 1 rfl C.glb.tuple (by decide +kernel)) (q := true) rfl (by decide +kernel)))) (fun _ => (xw_or (xt_f (xt_lt (xe_len C 2 rfl (xe_v C 1 rfl rfl rfl) (.inr rfl)) xe_int) rfl) (fun _ => (xw_or1 (xt_not (xt_v (xe_isi C 0 rfl (xe_ixT (xe_v C 1 rfl rfl rfl) xe_int rfl rfl) (xe_bt (T := "str") C 3 rfl C.glb.str (by decide +kernel)) (q := true) rfl (by decide +kernel)))))) (by intro z; cases z))) (by intro z; cases z))) (by intro z; cases z) (fun _ => ?_)
      refine xss_if0 (xt_f (xt_ne (xe_kget (q := 3) Z C 4 rfl (xe_ixT (xe_v C 1 rfl rfl rfl) xe_int rfl rfl) xe_int (by simp)) (xe_len C 2 rfl (xe_v C 1 rfl rfl rfl) (.inr rfl)) opd_neI) rfl) (by intro z; cases z) (fun _ => ?_)
      refine xss_set C 2 rfl rfl (xe_disp3 (fx := f3) hu (xe_gs C mr 5 rfl) (xe_gs C mo 6 rfl) (xe_gs C mw 7 rfl) (xe_g (v := .ref f1) C 8 rfl hf1 rfl (fun _ _ => rfl)) (xe_g (v := .ref f2) C 9 rfl hf2 rfl (fun _ _ => rfl)) (xe_g (v := .ref f3) C 10 rfl hf3 rfl (fun _ _ => rfl)) (xe_ixT (xe_v C 1 rfl rfl rfl) xe_int rfl rfl) (by rw [List.lookup_cons, show ((("wait" : Str) == ("row" : Str)) : Bool) = false by decide +kernel]; simp only; rw [List.lookup_cons, show ((("wait" : Str) == ("open" : Str)) : Bool) = false by decide +kernel]; simp [List.lookup]) n12 n13 n23) ?_ (lt_of rfl)
      exact xss_ret (xn (xe_callL c_is_wait_wish hf3 hr (by decide) C 2 rfl rfl (xa_cons (xe_v C 0 rfl rfl rfl) (xa_cons (xe_v C 1 rfl rfl rfl) xa_nil)) rfl (argc_ds _ [_, _]) (.mk ok hd hp hne hni hno))) rfl rfl
theorem CxI.sz (h : CxI P w K mg base X) (c : SzC K w mg) : SzC X.K X.w X.mg := by
  obtain ⟨rfl, rfl, rfl, rfl, rfl⟩ := h
  exact c
theorem c_is_wish (D : Df K mg "is_wish" s_is_wish) (hg : Glb mg) (Z : SzC K w mg) (mr : CstS mg "ROW" "row") (mo : CstS mg "OPEN" "open") (mw : CstS mg "WAIT" "wait")
    (c_is_row_wish : CalP P w K mg base 4 "is_row_wish" (spD CS R_is_row_wish)) (c_is_open_wish : CalP P w K mg base 4 "is_open_wish" (spD CS R_is_open_wish)) (c_is_wait_wish : CalP P w K mg base 4 "is_wait_wish" (spD CS R_is_wait_wish)) : CalP P w K mg base 5 "is_wish" (spD CS R_is_wish) :=
  mkD D hg sc_is_wish ok_is_wish (by intro _ _ h; cases h <;> rfl) (fun X hX C hr ds r hR => b_is_wish C hr (hX.sz Z) (by rw [hX.m]; exact mr) (by rw [hX.m]; exact mo) (by rw [hX.m]; exact mw) (hX.cal c_is_row_wish) (hX.cal c_is_open_wish) (hX.cal c_is_wait_wish) hR) (fun f fd F => F.binds fun _ _ _ _ _ _ us hl => match us, hl with | [_, _], _ => rfl)
end K06
/-! M5: lists that the walks of the wishes read; plain Lean. -/
namespace K06
theorem range_fm {α β : Type} (l : List α) (f : α → Option β) (g : Nat → Option β) (h : ∀ (i : Nat) (x : α), l[i]? = some x → g i = f x) : (List.range l.length).filterMap g = l.filterMap f := by
  have : ∀ n, n ≤ l.length → (List.range n).filterMap g = (l.take n).filterMap f := fun n => by
    induction n with
    | zero => intro _; rfl
    | succ n ih =>
      intro hn
      have e : l[n]? = some l[n] := by simp
      rw [List.range_succ, List.filterMap_append, ih (by omega), List.take_add_one, e, List.filterMap_append]
      congr 1
      have := h n _ e
      simp only [List.filterMap_cons, List.filterMap_nil, this, Option.toList]
  have := this l.length (Nat.le_refl _)
  rwa [List.take_length] at this
theorem cast_erase (l : List Nat) (d : Nat) : (l.map fun i => ((i : Nat) : Int)).erase ((d : Nat) : Int) = (l.erase d).map fun i => ((i : Nat) : Int) := by
  induction l with
  | nil => rfl
  | cons a l ih =>
    by_cases e : a = d
    · subst e
      rw [List.map_cons, List.erase_cons_head, List.erase_cons_head]
    · rw [List.map_cons, List.erase_cons_tail (by simpa using (fun z : ((a : Nat) : Int) = d => e (by omega))), List.erase_cons_tail (by simpa using e), ih, List.map_cons]
end K06
/-! D6: what stands behind a wish. -/
namespace K06
open PySem PySem.Spec L2
variable {P : Program} {w : World} {K : PySem.W.Frag} {mg : Str → Option Value} {base : Heap} {CS : Addr} {X : Cx}
/-- the places of an order's numbers -/
def kvJ : Nat → List Nat → List (Int × D)
  | _, [] => []
  | s, a :: l => (((a : Nat) : Int), D.int (s : Nat)) :: kvJ (s + 1) l
theorem kvJ_len : ∀ (s : Nat) (l : List Nat), (kvJ s l).length = l.length
  | _, [] => rfl
  | s, a :: l => by simp [kvJ, kvJ_len (s + 1) l]
theorem kvJ_keys : ∀ (s : Nat) (l : List Nat), (kvJ s l).map (·.1) = l.map fun i => ((i : Nat) : Int)
  | _, [] => rfl
  | s, a :: l => by simp [kvJ, kvJ_keys (s + 1) l]
theorem kvJ_lf : ∀ (s : Nat) (l : List Nat), LFs ((kvJ s l).map (·.2)) = true
  | _, [] => rfl
  | s, a :: l => by simp [kvJ, LFs, LF, kvJ_lf (s + 1) l]
theorem kvJ_get : ∀ (s : Nat) (l : List Nat) (i a : Nat), l[i]? = some a → (kvJ s l)[i]? = some (((a : Nat) : Int), D.int ((s + i : Nat) : Int))
  | _, [], i, a, h => by simp at h
  | s, b :: l, 0, a, h => by
    have : b = a := by simpa using h
    rw [this]
    rfl
  | s, b :: l, i + 1, a, h => by
    have := kvJ_get (s + 1) l i a (by simpa using h)
    rw [show s + (i + 1) = s + 1 + i by omega]
    simpa [kvJ] using this
theorem kvJ_look : ∀ (s : Nat) (l : List Nat) (j : Nat), j ∈ l → (kvJ s l).lookup ((j : Nat) : Int) = some (.int ((s + l.idxOf j : Nat) : Int))
  | _, [], j, h => by simp at h
  | s, b :: l, j, h => by
    unfold kvJ
    rw [List.lookup_cons]
    by_cases e : j = b
    · subst e
      simp
    · have e1 : (((j : Nat) : Int) == ((b : Nat) : Int)) = false := by
        have : ¬ ((j : Nat) : Int) = ((b : Nat) : Int) := by omega
        simpa using this
      have hj : j ∈ l := by
        rcases List.mem_cons.mp h with z | z
        · exact absurd z e
        · exact z
      rw [e1]
      simp only
      rw [kvJ_look (s + 1) l j hj, List.idxOf_cons]
      have e2 : (b == j) = false := by simpa using (fun z : b = j => e z.symm)
      rw [e2]
      simp only [cond_false]
      congr 3
      omega
inductive R_renumbered : List D → D → Prop
  | mk {dl : List Deed} {ord : List Nat} : ord.Nodup → (∀ i ∈ ord, i < dl.length) → (∀ x ∈ dl, ∀ j ∈ x.waits, j ∈ ord) → (∀ x ∈ dl, x.waits.length ≤ 40) → ord.length ≤ 40 → R_renumbered [.lst (encDs dl), .lst (natsD ord)] (.tup (encDs (numb dl ord)))
theorem b_renumbered (C : Ctx X (defScope s_renumbered) N_renumbered V_renumbered V_renumbered G_renumbered) (hr : Room 0 X.A) {ds : List D} {r : D} (hR : R_renumbered ds r) :
    XSs X CS (defBody s_renumbered) (startD N_renumbered (ds.map Slot.im)) (Pr r) := by
  have hu : X.A.units + 1 < cLine := hu_of hr
  cases hR with
  | @mk dl ord nd hlt hw hwl hol =>
    refine xss_setDc C 2 rfl rfl [4, 8] [8, 4] [] (own := [("at", 8), ("deed", 4)]) (F := kvJ 0 ord) (xi_el C 0 rfl (xe_v C 1 rfl rfl rfl) rfl) (by decide +kernel) (by decide +kernel) (LFs_all fun d hd => ?_) (by rw [enumD_len, natsD_len]; omega) (by rw [enumD_len, natsD_len, kvJ_len]) (by rw [kvJ_keys]; exact cast_nodup nd) (kvJ_lf 0 ord) (fun i d hd => ?_) Cng.refl (lt_of rfl) (fun ln => ?_) (by intro _; rfl) (.inr (cell_swaps (by rw [C.hsc]; rfl) (by rw [C.hsc]; rfl)))
    · obtain ⟨i, hi⟩ := List.mem_iff_getElem?.mp hd
      obtain ⟨d', h1, rfl⟩ := enumD_of hi
      have := LFs_get (LFs_nats ord) h1
      simp [LF, LFs, this]
    · obtain ⟨d', h1, rfl⟩ := enumD_of hd
      obtain ⟨n, hn, rfl⟩ := natsD_of h1
      exact ⟨_, _, (n : Nat), .int (i : Nat), rfl, by rw [kvJ_get 0 ord i n hn, Nat.zero_add], fun Y hB D => (xg_t D (xgs_cons (xg_n D 8 rfl rfl (lt_of rfl)) (xgs_cons (xg_n D 4 rfl rfl (lt_of rfl)) xgs_nil)) rfl), fun Y hB D => xe_v D 4 rfl rfl rfl, fun Y hB D => xe_v D 8 rfl rfl rfl, rfl⟩
    refine xss_setL C 3 rfl rfl (xe_lst (ds := []) xa_nil (le_of rfl) rfl) rfl (fun lf => ?_) (lt_of rfl)
    refine xss_for C (xi_l (xe_v C 1 rfl rfl rfl) rfl) (fun i δ => ∃ x4 x5 x6 x7, δ = [some (.im (.lst (encDs dl))), some (.im (.lst (natsD ord))), some (.md ln (kvJ 0 ord)), some (.ml lf (encDs ((numb dl ord).take i))), x4, x5, x6, x7, none, none]) _ ⟨none, none, none, none, rfl⟩ (fun i d δ hd hI => ?_) (fun δ h => h) (fun δ hI => ?_)
    · obtain ⟨x4, x5, x6, x7, rfl⟩ := hI
      obtain ⟨n, hn, rfl⟩ := natsD_of hd
      have hnl := hlt n (List.mem_of_getElem? hn)
      have hil : i < ord.length := (List.getElem?_eq_some_iff.mp hn).1
      have hmd := mem_dl hnl
      refine ⟨_, _, (xg_n C 4 rfl rfl (lt_of rfl)), ?_⟩
      refine xss_asg (xe_ixL (xe_v C 0 rfl rfl rfl) (xe_v C 4 rfl rfl rfl) rfl (atI_nat (encDs_get (getD_some hnl)))) (xg_t C (xgs_cons (xg_n C 5 rfl rfl (lt_of rfl)) (xgs_cons (xg_n C 6 rfl rfl (lt_of rfl)) (xgs_cons (xg_n C 7 rfl rfl (lt_of rfl)) xgs_nil))) rfl) ?_
      have hlc : (List.range (natsD (dl.getD n dflt).waits).length).filterMap (fun m => some (D.int ((ord.idxOf ((dl.getD n dflt).waits.getD m 0) : Nat) : Int))) = natsD ((dl.getD n dflt).waits.map fun j => ord.idxOf j) := by
        rw [natsD_len, fm_some]
        unfold natsD
        rw [List.map_map, List.map_map]
        refine range_get _ _ _ fun m x hx => ?_
        rw [List.getD_eq_getElem?_getD, hx]
        rfl
      refine xss_app C 3 rfl rfl rfl (xe_tup (ds := [_, _, _]) (xa_cons (xe_v C 5 rfl rfl rfl) (xa_cons (xe_v C 6 rfl rfl rfl) (xa_cons (xe_tuple C 1 rfl (xe_sorted C 2 rfl (xe_lcP (own := [("other", 9)]) (fun m => some (D.int ((ord.idxOf ((dl.getD n dflt).waits.getD m 0) : Nat) : Int))) C [2, 9] [9] [] (xi_t (xe_v C 7 rfl rfl rfl) rfl) (by decide +kernel) (by decide +kernel) (LFs_nats _) (by rw [natsD_len]; have := hwl _ hmd; omega) (fun m d hd => ?_) hlc) rfl ((sortN_perm _).map _) (cast_up2 (sortN_up _))) rfl) xa_nil))) (le_of rfl)) rfl ?_ ?_ ?_
      · obtain ⟨j, hj, rfl⟩ := natsD_of hd
        have hjo := hw _ hmd j (List.mem_of_getElem? hj)
        have hl := kvJ_look 0 ord j hjo
        rw [Nat.zero_add] at hl
        have eg : (dl.getD n dflt).waits.getD m 0 = j := by rw [List.getD_eq_getElem?_getD, hj]; rfl
        refine ⟨_, _, true, rfl, fun Y hB D => (xg_n D 9 rfl rfl (lt_of rfl)), fun Y hB D => (xts_one (xt_t (xt_din (hu_of (Room.blk hr hB)) (xe_v D 9 rfl rfl rfl) (xe_m D 2 rfl rfl rfl rfl) ⟨2, rfl⟩) (by rw [hl]; rfl))), fun _ => ⟨_, rfl, fun Y hB D => xe_to (xe_dget (hu_of (Room.blk hr hB)) (xe_m D 2 rfl rfl rfl rfl) (xe_v D 9 rfl rfl rfl) ⟨2, rfl⟩ hl) (by rw [eg]), rfl⟩, (by intro z; cases z), rfl⟩
      · have h1 := lf_optD (dl.getD n dflt).first
        have h2 := LFs_nats (sortN ((dl.getD n dflt).waits.map fun j => ord.idxOf j))
        unfold natsD at h2
        simp only [LF, LFs, h1, h2, Bool.and_true]
      · have : (encDs ((numb dl ord).take i)).length ≤ i := by
          rw [encDs_len]
          exact List.length_take_le _ _
        omega
      · have E : encDs ((numb dl ord).take i) ++ [D.tup [optD (dl.getD n dflt).first, .int (dl.getD n dflt).need, .tup (natsD (sortN ((dl.getD n dflt).waits.map fun j => ord.idxOf j)))]] = encDs ((numb dl ord).take (i + 1)) := by
          have : (numb dl ord)[i]? = some ⟨(dl.getD n dflt).first, (dl.getD n dflt).need, sortN ((dl.getD n dflt).waits.map fun j => ord.idxOf j)⟩ := by
            unfold numb
            rw [List.getElem?_map, hn]
            rfl
          rw [List.take_add_one, this]
          simp [encDs, Deed.enc]
        rw [E]
        exact xss_nil ⟨_, _, _, _, rfl⟩
    · obtain ⟨x4, x5, x6, x7, rfl⟩ := hI
      have e : (numb dl ord).take (natsD ord).length = numb dl ord := by
        rw [natsD_len]
        exact List.take_of_length_le (by simp [numb])
      rw [e]
      exact xss_ret (xe_tuple C 1 rfl (xe_m C 3 rfl rfl rfl rfl) ⟨3, rfl⟩) rfl (lf_encs _)
theorem c_renumbered (D : Df K mg "renumbered" s_renumbered) (hg : Glb mg) : CalP P w K mg base 1 "renumbered" (spD CS R_renumbered) :=
  mkD D hg sc_renumbered ok_renumbered (by intro _ _ h; cases h <;> rfl) (fun X hX C hr ds r hR => b_renumbered C hr hR) (fun f fd F => F.binds fun _ _ _ _ _ _ us hl => match us, hl with | [_, _], _ => rfl)
inductive R_written_many : List D → D → Prop
  | mkT {dl : List Deed} : dl.length ≤ 40 → R_written_many [.tup (encDs dl)] (.int (wm dl : Nat))
  | mkL {dl : List Deed} : dl.length ≤ 40 → R_written_many [.lst (encDs dl)] (.int (wm dl : Nat))
theorem wmF (dl : List Deed) : ((List.range (encDs dl).length).filterMap fun i => (dl.getD i dflt).first.map D.int).length = wm dl := by
  rw [encDs_len, range_fm dl (fun d => d.first.map D.int) _ fun i x h => by rw [getD_of h]]
  unfold wm
  induction dl with
  | nil => rfl
  | cons d dl ih =>
    cases q : d.first with
    | none => rw [List.filterMap_cons, List.filter_cons_of_neg (by rw [q]; simp), q]; exact ih
    | some f => rw [List.filterMap_cons, List.filter_cons_of_pos (by rw [q]; rfl), q]; simp [ih]
theorem b_written_many (C : Ctx X (defScope s_written_many) N_written_many V_written_many V_written_many G_written_many) (hr : Room 0 X.A) {ds : List D} {r : D} (hR : R_written_many ds r) :
    XSs X CS (defBody s_written_many) (startD N_written_many (ds.map Slot.im)) (Pr r) := by
  have turn : ∀ {dl : List Deed} {y : Option Slot} (i : Nat) (d : D), (encDs dl)[i]? = some d → ∃ dd : Deed, d = dd.enc ∧ dl.getD i dflt = dd := fun i d hd => by
    obtain ⟨dd, e, rfl⟩ := encDs_of hd
    exact ⟨dd, rfl, getD_of e⟩
  cases hR with
  | @mkT dl hn =>
    refine xss_ret (xe_to (xe_len C 0 rfl (xe_lcP (own := [("first", 1), ("need", 2), ("waits", 3)]) (fun i => (dl.getD i dflt).first.map D.int) C [1, 2, 3] [1, 2, 3] [] (xi_t (xe_v C 0 rfl rfl rfl) rfl) (by decide +kernel) (by decide +kernel) (lf_encs dl) (by rw [encDs_len]; omega) (fun i d hd => ?_) rfl) (.inl rfl)) (by rw [wmF])) rfl rfl
    obtain ⟨dd, rfl, e⟩ := turn (y := none) i d hd
    refine ⟨_, _, (!(optD dd.first).isNon), rfl, fun Y hB D => (xg_t D (xgs_cons (xg_n D 1 rfl rfl (lt_of rfl)) (xgs_cons (xg_n D 2 rfl rfl (lt_of rfl)) (xgs_cons (xg_n D 3 rfl rfl (lt_of rfl)) xgs_nil))) rfl), fun Y hB D => (xts_one (xt_notN (xe_v D 1 rfl rfl rfl))), fun hb => ⟨optD dd.first, ?_, fun Y hB D => (xe_v D 1 rfl rfl rfl), lf_optD _⟩, fun hb => ?_, rfl⟩
    · rw [e]
      cases q : dd.first with
      | none => rw [q] at hb; cases hb
      | some f => rfl
    · rw [e]
      cases q : dd.first with
      | none => rfl
      | some f => rw [q] at hb; cases hb
  | @mkL dl hn =>
    refine xss_ret (xe_to (xe_len C 0 rfl (xe_lcP (own := [("first", 1), ("need", 2), ("waits", 3)]) (fun i => (dl.getD i dflt).first.map D.int) C [1, 2, 3] [1, 2, 3] [] (xi_l (xe_v C 0 rfl rfl rfl) rfl) (by decide +kernel) (by decide +kernel) (lf_encs dl) (by rw [encDs_len]; omega) (fun i d hd => ?_) rfl) (.inl rfl)) (by rw [wmF])) rfl rfl
    obtain ⟨dd, rfl, e⟩ := turn (y := none) i d hd
    refine ⟨_, _, (!(optD dd.first).isNon), rfl, fun Y hB D => (xg_t D (xgs_cons (xg_n D 1 rfl rfl (lt_of rfl)) (xgs_cons (xg_n D 2 rfl rfl (lt_of rfl)) (xgs_cons (xg_n D 3 rfl rfl (lt_of rfl)) xgs_nil))) rfl), fun Y hB D => (xts_one (xt_notN (xe_v D 1 rfl rfl rfl))), fun hb => ⟨optD dd.first, ?_, fun Y hB D => (xe_v D 1 rfl rfl rfl), lf_optD _⟩, fun hb => ?_, rfl⟩
    · rw [e]
      cases q : dd.first with
      | none => rw [q] at hb; cases hb
      | some f => rfl
    · rw [e]
      cases q : dd.first with
      | none => rfl
      | some f => rw [q] at hb; cases hb
theorem c_written_many (D : Df K mg "written_many" s_written_many) (hg : Glb mg) : CalP P w K mg base 1 "written_many" (spD CS R_written_many) :=
  mkD D hg sc_written_many ok_written_many (by intro _ _ h; cases h <;> rfl) (fun X hX C hr ds r hR => b_written_many C hr hR) (fun f fd F => F.binds fun _ _ _ _ _ _ us hl => match us, hl with | [_], _ => rfl)

/-- renumbered takes what is changed -/
theorem ren_of {b h : Int} {dl : List Deed} {w : Wish} (o : Ok b h dl) (k : OkW b dl w) : R_renumbered [.lst (encDs (chg h dl w)), .lst (natsD (ordr dl w))] (.tup (encDs (bh h dl w))) := by
  have z := bh0 o k
  have nd : (ordr dl w).Nodup := z.perm.nodup_iff.mpr List.nodup_range
  have hmem : ∀ x, x ∈ ordr dl w ↔ x < (chg h dl w).length := fun x => by rw [z.perm.mem_iff, List.mem_range]
  have hl := z.len
  have hlen : (ordr dl w).length = (chg h dl w).length := by rw [z.perm.length_eq, List.length_range]
  refine .mk nd (fun i hi => (hmem i).mp hi) (fun x hx j hj => ?_) (fun x hx => ?_) (by omega)
  · obtain ⟨i, hi⟩ := List.mem_iff_getElem?.mp hx
    exact (hmem j).mpr ((z.wt i x hi).2 j hj)
  · obtain ⟨i, hi⟩ := List.mem_iff_getElem?.mp hx
    have := nodup_len (z.wt i x hi).1 (z.wt i x hi).2
    omega
theorem ixN_nat {n d : Nat} (h : d < n) : L2.ixN n ((d : Nat) : Int) = some d := by
  unfold L2.ixN
  rw [if_pos (by omega), if_pos (by omega)]
  simp
theorem encDs_set (dl : List Deed) (d : Nat) (x : Deed) : (encDs dl).set d x.enc = encDs (dl.set d x) := by
  unfold encDs
  rw [List.map_set]
inductive R_behind_row : List D → D → Prop
  | mk {b c h : Int} {dl : List Deed} {d : Nat} {k n : Int} : Ok b h dl → OkW b dl (.row d k n) → R_behind_row [.std c h (encDs dl), .int (d : Nat), .int k, .int n] (.std c (h + k) (encDs (bh h dl (.row d k n))))
theorem b_behind_row (C : Ctx X (defScope s_behind_row) N_behind_row V_behind_row V_behind_row G_behind_row) (hr : Room 8 X.A) (S : StdC X.K CS) (c_written_many : CalX X 1 "written_many" (spD CS R_written_many)) (c_raw_standing : CalX X 8 "raw_standing" (spD CS R_raw_standing)) (c_renumbered : CalX X 1 "renumbered" (spD CS R_renumbered)) {ds : List D} {r : D} (hR : R_behind_row ds r) :
    XSs X CS (defBody s_behind_row) (startD N_behind_row (ds.map Slot.im)) (Pr r) := by
  cases hR with
  | @mk b c h dl d k n o ok =>
    have hlen := o.len
    have hd : d < dl.length := by cases ok; assumption
    have hmd := mem_dl hd
    have hren := ren_of o ok
    have hlfx : ∀ f : Option Int, LF (D.tup [optD f, .int n, .tup (natsD (dl.getD d dflt).waits)]) = true := fun f => lf_enc ⟨f, n, (dl.getD d dflt).waits⟩
    refine xss_asg (xe_ixT (xe_deeds S (xe_v C 0 rfl rfl rfl)) (xe_v C 1 rfl rfl rfl) rfl (atI_nat (encDs_get (getD_some hd)))) (xg_t C (xgs_cons (xg_n C 4 rfl rfl (lt_of rfl)) (xgs_cons (xg_n C 5 rfl rfl (lt_of rfl)) (xgs_cons (xg_n C 6 rfl rfl (lt_of rfl)) xgs_nil))) rfl) ?_
    refine xss_setL C 7 rfl rfl (xe_list C 0 rfl (xe_deeds S (xe_v C 0 rfl rfl rfl)) (.inr rfl) (lf_encs dl)) (lf_encs dl) (fun ld => ?_) (lt_of rfl)
    refine xss_setL C 8 rfl rfl (xe_listR C 0 1 rfl rfl (xe_i (xe_len C 2 rfl (xe_m C 7 rfl rfl rfl rfl) (.inl ⟨7, rfl⟩)) (by rw [encDs_len])) (by omega)) (LFs_nats _) (fun lo => ?_) (lt_of rfl)
    cases q : (dl.getD d dflt).first with
    | none =>
      have eo : insAt ((List.range dl.length).erase d) (wm dl) d = ordr dl (.row d k n) := by simp only [ordr]; rw [if_pos q]
      have ec : dl.set d ⟨some h, n, (dl.getD d dflt).waits⟩ = chg h dl (.row d k n) := by simp only [chg]; rw [q]; rfl
      have hel : ((List.range dl.length).erase d).length ≤ 1000 := by
        have := List.length_erase_le (a := d) (l := List.range dl.length)
        rw [List.length_range] at this
        omega
      have hwm := wm_le dl
      refine xss_if (Mid := fun δ => ∃ x6, δ = [some (.im (.std c h (encDs dl))), some (.im (.int (d : Nat))), some (.im (.int k)), some (.im (.int n)), some (.im (.int h)), x6, some (.im (.tup (natsD (dl.getD d dflt).waits))), some (.ml ld (encDs dl)), some (.ml lo (natsD (ordr dl (.row d k n))))]) (xt_t (xt_isN (xe_v C 4 rfl rfl rfl)) rfl) (fun _ => ?_) (by intro z; cases z) (fun δ hδ => ?_)
      · refine xss_rem C 8 rfl rfl rfl (xe_v C 1 rfl rfl rfl) rfl (int_mem.mpr (List.mem_range.mpr hd)) ?_
        rw [cast_erase]
        refine xss_ins (m := wm dl) C 8 rfl rfl rfl (xa_cons (xn (xe_call c_written_many hr (by decide) C 3 rfl (xa_cons (xe_m C 7 rfl rfl rfl rfl) xa_nil) (ds := [.lst (encDs dl)]) ⟨_, _, rfl, ⟨7, _, rfl, rfl⟩, rfl⟩ (.mkL (by omega)))) (xa_cons (xe_v C 1 rfl rfl rfl) xa_nil)) rfl rfl (by rw [List.length_map, List.length_map]; exact hel) (by omega) ?_
        have E : ((((List.range dl.length).erase d).map fun i => ((i : Nat) : Int)).map D.int).take (wm dl) ++ [D.int (d : Nat)] ++ ((((List.range dl.length).erase d).map fun i => ((i : Nat) : Int)).map D.int).drop (wm dl) = natsD (ordr dl (.row d k n)) := by
          rw [← eo]
          unfold natsD insAt
          simp only [List.map_append, List.map_take, List.map_drop, List.map_cons, List.map_nil]
        rw [E]
        exact xss_set C 4 rfl rfl (xe_head S (xe_v C 0 rfl rfl rfl)) (xss_nil ⟨_, rfl⟩) (lt_of rfl)
      · obtain ⟨x6, rfl⟩ := hδ
        refine xss_setI C 7 rfl rfl (xe_tup (ds := [_, _, _]) (xa_cons (xe_v C 4 rfl rfl rfl) (xa_cons (xe_v C 3 rfl rfl rfl) (xa_cons (xe_v C 6 rfl rfl rfl) xa_nil))) (le_of rfl)) rfl (xe_v C 1 rfl rfl rfl) (ixN_nat (by rw [encDs_len]; exact hd)) (hlfx (some h)) ?_
        have E2 : (encDs dl).set d (D.tup [.int h, .int n, .tup (natsD (dl.getD d dflt).waits)]) = encDs (chg h dl (.row d k n)) := by
          rw [← ec, ← encDs_set]
          rfl
        rw [E2]
        exact xss_retn (xe_call c_raw_standing hr (by decide) C 4 rfl (xa_cons (xe_cells S (xe_v C 0 rfl rfl rfl)) (xa_cons (xe_add (xe_head S (xe_v C 0 rfl rfl rfl)) (xe_v C 2 rfl rfl rfl)) (xa_cons (xn (xe_call c_renumbered hr (by decide) C 5 rfl (xa_cons (xe_m C 7 rfl rfl rfl rfl) (xa_cons (xe_m C 8 rfl rfl rfl rfl) xa_nil)) (ds := [.lst (encDs (chg h dl (.row d k n))), .lst (natsD (ordr dl (.row d k n)))]) ⟨_, _, rfl, ⟨7, _, rfl, rfl⟩, _, _, rfl, ⟨8, _, rfl, rfl⟩, rfl⟩ hren)) xa_nil))) (argc_ds _ [_, _, _]) .mkT) rfl
    | some f =>
      have eo : List.range dl.length = ordr dl (.row d k n) := by simp only [ordr]; rw [if_neg (by rw [q]; simp)]
      have ec : dl.set d ⟨some f, n, (dl.getD d dflt).waits⟩ = chg h dl (.row d k n) := by simp only [chg]; rw [q]; rfl
      refine xss_if0 (xt_f (xt_isN (xe_v C 4 rfl rfl rfl)) rfl) (by intro z; cases z) (fun _ => ?_)
      rw [eo]
      refine xss_setI C 7 rfl rfl (xe_tup (ds := [_, _, _]) (xa_cons (xe_v C 4 rfl rfl rfl) (xa_cons (xe_v C 3 rfl rfl rfl) (xa_cons (xe_v C 6 rfl rfl rfl) xa_nil))) (le_of rfl)) rfl (xe_v C 1 rfl rfl rfl) (ixN_nat (by rw [encDs_len]; exact hd)) (hlfx _) ?_
      have E2 : (encDs dl).set d (D.tup [optD (some f), .int n, .tup (natsD (dl.getD d dflt).waits)]) = encDs (chg h dl (.row d k n)) := by
        rw [← ec, ← encDs_set]
        rfl
      rw [E2]
      exact xss_retn (xe_call c_raw_standing hr (by decide) C 4 rfl (xa_cons (xe_cells S (xe_v C 0 rfl rfl rfl)) (xa_cons (xe_add (xe_head S (xe_v C 0 rfl rfl rfl)) (xe_v C 2 rfl rfl rfl)) (xa_cons (xn (xe_call c_renumbered hr (by decide) C 5 rfl (xa_cons (xe_m C 7 rfl rfl rfl rfl) (xa_cons (xe_m C 8 rfl rfl rfl rfl) xa_nil)) (ds := [.lst (encDs (chg h dl (.row d k n))), .lst (natsD (ordr dl (.row d k n)))]) ⟨_, _, rfl, ⟨7, _, rfl, rfl⟩, _, _, rfl, ⟨8, _, rfl, rfl⟩, rfl⟩ hren)) xa_nil))) (argc_ds _ [_, _, _]) .mkT) rfl
theorem c_behind_row (D : Df K mg "behind_row" s_behind_row) (hg : Glb mg) (S : StdC K CS) (c_written_many : CalP P w K mg base 1 "written_many" (spD CS R_written_many)) (c_raw_standing : CalP P w K mg base 8 "raw_standing" (spD CS R_raw_standing)) (c_renumbered : CalP P w K mg base 1 "renumbered" (spD CS R_renumbered)) : CalP P w K mg base 9 "behind_row" (spD CS R_behind_row) :=
  mkD D hg sc_behind_row ok_behind_row (by intro _ _ h; cases h <;> rfl) (fun X hX C hr ds r hR => b_behind_row C hr (hX.std S) (hX.cal c_written_many) (hX.cal c_raw_standing) (hX.cal c_renumbered) hR) (fun f fd F => F.binds fun _ _ _ _ _ _ us hl => match us, hl with | [_, _, _, _], _ => rfl)
inductive R_behind_open : List D → D → Prop
  | mk {b c h : Int} {dl : List Deed} {k n : Int} {ws : List Nat} : Ok b h dl → OkW b dl (.opn k n ws) → R_behind_open [.std c h (encDs dl), .int k, .int n, .tup (natsD ws)] (.std c (h + k) (encDs (bh h dl (.opn k n ws))))
theorem b_behind_open (C : Ctx X (defScope s_behind_open) N_behind_open V_behind_open V_behind_open G_behind_open) (hr : Room 8 X.A) (S : StdC X.K CS) (c_written_many : CalX X 1 "written_many" (spD CS R_written_many)) (c_raw_standing : CalX X 8 "raw_standing" (spD CS R_raw_standing)) (c_renumbered : CalX X 1 "renumbered" (spD CS R_renumbered)) {ds : List D} {r : D} (hR : R_behind_open ds r) :
    XSs X CS (defBody s_behind_open) (startD N_behind_open (ds.map Slot.im)) (Pr r) := by
  cases hR with
  | @mk b c h dl k n ws o ok =>
    have hlen := o.len
    have hren := ren_of o ok
    have hwm := wm_le dl
    have hlt : dl.length < 30 := by cases ok; assumption
    have ec : encDs dl ++ [D.tup [optD (if 0 < k then some h else none), .int n, .tup (natsD ws)]] = encDs (chg h dl (.opn k n ws)) := by simp [encDs, chg, Deed.enc]
    have lx : LF (D.tup [optD (if 0 < k then some h else none), .int n, .tup (natsD ws)]) = true := lf_enc ⟨if 0 < k then some h else none, n, ws⟩
    have lxs : LFs [D.tup [optD (if 0 < k then some h else none), .int n, .tup (natsD ws)]] = true := by simp only [LFs, lx, Bool.and_true]
    refine xss_set (x := .lst (encDs (chg h dl (.opn k n ws)))) C 4 rfl rfl (xn (xn_to (xe_cat (xe_list C 0 rfl (xe_deeds S (xe_v C 0 rfl rfl rfl)) (.inr rfl) (lf_encs dl)) (xe_lst (ds := [_]) (xa_cons (xe_tup (ds := [optD (if 0 < k then some h else none), .int n, .tup (natsD ws)]) (xa_cons (xe_if (xt_gt (xe_v C 1 rfl rfl rfl) xe_int) (fun hb => xe_to (xe_head S (xe_v C 0 rfl rfl rfl)) (by rw [if_pos (of_decide_eq_true hb)]; rfl)) (fun hb => xe_to xe_non (by rw [if_neg (of_decide_eq_false hb)]; rfl))) (xa_cons (xe_v C 2 rfl rfl rfl) (xa_cons (xe_v C 3 rfl rfl rfl) xa_nil))) (le_of rfl)) xa_nil) (le_of rfl) lxs) rfl rfl (by rw [encDs_len]; simp; omega) (by rw [ec]; exact lf_encs _)) (by rw [ec]))) ?_ (lt_of rfl)
    refine xss_setL C 5 rfl rfl (xe_listR C 0 1 rfl rfl (xe_i (xe_len C 2 rfl (xe_deeds S (xe_v C 0 rfl rfl rfl)) (.inr rfl)) (by rw [encDs_len])) (by omega)) (LFs_nats _) (fun lo => ?_) (lt_of rfl)
    have E : ∀ m : Nat, m = (if 0 < k then wm dl else dl.length) → (natsD (List.range dl.length)).take m ++ [D.int (dl.length : Nat)] ++ (natsD (List.range dl.length)).drop m = natsD (ordr dl (.opn k n ws)) := fun m hm => by
      simp only [ordr]
      by_cases q : 0 < k
      · rw [if_pos q] at hm ⊢
        subst hm
        unfold natsD insAt
        simp only [List.map_append, List.map_take, List.map_drop, List.map_cons, List.map_nil]
      · rw [if_neg q] at hm ⊢
        subst hm
        have l1 : (natsD (List.range dl.length)).length = dl.length := by rw [natsD_len, List.length_range]
        rw [List.range_succ, natsD_app, List.take_of_length_le (by omega), List.drop_of_length_le (by omega), List.append_nil]
        rfl
    refine xss_ins (m := if 0 < k then wm dl else dl.length) (x := .int (dl.length : Nat)) C 5 rfl rfl rfl (xa_cons (xe_if (xt_gt (xe_v C 1 rfl rfl rfl) xe_int) (fun hb => xe_to (xn (xe_call c_written_many hr (by decide) C 3 rfl (xa_cons (xe_deeds S (xe_v C 0 rfl rfl rfl)) xa_nil) (argc_ds _ [_]) (.mkT (by omega)))) (by rw [if_pos (of_decide_eq_true hb)])) (fun hb => xe_to (xe_len C 2 rfl (xe_m C 5 rfl rfl rfl rfl) (.inl ⟨5, rfl⟩)) (by rw [if_neg (of_decide_eq_false hb), natsD_len, List.length_range]))) (xa_cons (xe_to (xe_len C 2 rfl (xe_m C 5 rfl rfl rfl rfl) (.inl ⟨5, rfl⟩)) (by rw [natsD_len, List.length_range])) xa_nil)) rfl rfl (by rw [natsD_len, List.length_range]; omega) (by split <;> omega) ?_
    rw [E _ rfl]
    exact xss_retn (xe_call c_raw_standing hr (by decide) C 4 rfl (xa_cons (xe_cells S (xe_v C 0 rfl rfl rfl)) (xa_cons (xe_add (xe_head S (xe_v C 0 rfl rfl rfl)) (xe_v C 1 rfl rfl rfl)) (xa_cons (xn (xe_call c_renumbered hr (by decide) C 5 rfl (xa_cons (xe_v C 4 rfl rfl rfl) (xa_cons (xe_m C 5 rfl rfl rfl rfl) xa_nil)) (ds := [.lst (encDs (chg h dl (.opn k n ws))), .lst (natsD (ordr dl (.opn k n ws)))]) ⟨_, _, rfl, rfl, _, _, rfl, ⟨5, _, rfl, rfl⟩, rfl⟩ hren)) xa_nil))) (argc_ds _ [_, _, _]) .mkT) rfl
theorem c_behind_open (D : Df K mg "behind_open" s_behind_open) (hg : Glb mg) (S : StdC K CS) (c_written_many : CalP P w K mg base 1 "written_many" (spD CS R_written_many)) (c_raw_standing : CalP P w K mg base 8 "raw_standing" (spD CS R_raw_standing)) (c_renumbered : CalP P w K mg base 1 "renumbered" (spD CS R_renumbered)) : CalP P w K mg base 9 "behind_open" (spD CS R_behind_open) :=
  mkD D hg sc_behind_open ok_behind_open (by intro _ _ h; cases h <;> rfl) (fun X hX C hr ds r hR => b_behind_open C hr (hX.std S) (hX.cal c_written_many) (hX.cal c_raw_standing) (hX.cal c_renumbered) hR) (fun f fd F => F.binds fun _ _ _ _ _ _ us hl => match us, hl with | [_, _, _, _], _ => rfl)
inductive R_behind_wait : List D → D → Prop
  | mk {b c h : Int} {dl : List Deed} {d p : Nat} : Ok b h dl → OkW b dl (.wait d p) → R_behind_wait [.std c h (encDs dl), .int (d : Nat), .int (p : Nat)] (.std c (h + 0) (encDs (bh h dl (.wait d p))))
theorem bh_wait {b h : Int} {dl : List Deed} {d p : Nat} (o : Ok b h dl) (ok : OkW b dl (.wait d p)) : bh h dl (.wait d p) = chg h dl (.wait d p) := by
  have z := bh0 o ok
  have hl : (chg h dl (.wait d p)).length = dl.length := by simp [chg]
  have hd : d < dl.length := by cases ok; assumption
  show numb _ (List.range dl.length) = _
  rw [← hl]
  refine numb_range fun i x hx => ⟨?_, (z.wt i x hx).2⟩
  have e : x = if i = d then ⟨(dl.getD d dflt).first, (dl.getD d dflt).need, sortN ((dl.getD d dflt).waits ++ [p])⟩ else dl.getD i dflt := by
    rw [← set_getD hd]
    exact (getD_of hx).symm
  have hi := (List.getElem?_eq_some_iff.mp hx).1
  rw [hl] at hi
  rw [e]
  by_cases q : i = d
  · rw [if_pos q]; exact sortN_up _
  · rw [if_neg q]; exact (o.wt i _ (getD_some hi)).up.imp fun h => Nat.le_of_lt h
theorem b_behind_wait (C : Ctx X (defScope s_behind_wait) N_behind_wait V_behind_wait V_behind_wait G_behind_wait) (hr : Room 8 X.A) (S : StdC X.K CS) (c_raw_standing : CalX X 8 "raw_standing" (spD CS R_raw_standing)) {ds : List D} {r : D} (hR : R_behind_wait ds r) :
    XSs X CS (defBody s_behind_wait) (startD N_behind_wait (ds.map Slot.im)) (Pr r) := by
  cases hR with
  | @mk b c h dl d p o ok =>
    have hlen := o.len
    have hd : d < dl.length := by cases ok; assumption
    have hwl : (dl.getD d dflt).waits.length ≤ 30 := Nat.le_trans (nodup_len (up_nodup (o.wt d _ (getD_some hd)).up) (o.wt d _ (getD_some hd)).lt) hlen
    refine xss_setL C 3 rfl rfl (xe_list C 0 rfl (xe_deeds S (xe_v C 0 rfl rfl rfl)) (.inr rfl) (lf_encs dl)) (lf_encs dl) (fun ld => ?_) (lt_of rfl)
    refine xss_asg (xe_ixL (xe_m C 3 rfl rfl rfl rfl) (xe_v C 1 rfl rfl rfl) ⟨3, rfl⟩ (atI_nat (encDs_get (getD_some hd)))) (xg_t C (xgs_cons (xg_n C 4 rfl rfl (lt_of rfl)) (xgs_cons (xg_n C 5 rfl rfl (lt_of rfl)) (xgs_cons (xg_n C 6 rfl rfl (lt_of rfl)) xgs_nil))) rfl) ?_
    have e1 : natsD (dl.getD d dflt).waits ++ [D.int (p : Nat)] = natsD ((dl.getD d dflt).waits ++ [p]) := by simp [natsD]
    refine xss_setI C 3 rfl rfl (xe_tup (ds := [_, _, _]) (xa_cons (xe_v C 4 rfl rfl rfl) (xa_cons (xe_v C 5 rfl rfl rfl) (xa_cons (xe_tuple C 1 rfl (xe_sortedT (ns := ((dl.getD d dflt).waits ++ [p]).map fun i => ((i : Nat) : Int)) C 2 rfl (xe_to (y := .tup (natsD ((dl.getD d dflt).waits ++ [p]))) (xe_catT (xe_v C 6 rfl rfl rfl) (xe_tup (ds := [_]) (xa_cons (xe_v C 2 rfl rfl rfl) xa_nil) (le_of rfl)) rfl rfl (by rw [natsD_len, List.length_singleton]; omega)) (by rw [e1])) rfl (by rw [List.length_map, List.length_append, List.length_singleton]; omega) ((sortN_perm _).map _) (cast_up2 (sortN_up _))) rfl) xa_nil))) (le_of rfl)) rfl (xe_v C 1 rfl rfl rfl) (ixN_nat (by rw [encDs_len]; exact hd)) (lf_enc ⟨(dl.getD d dflt).first, (dl.getD d dflt).need, sortN ((dl.getD d dflt).waits ++ [p])⟩) ?_
    have E2 : (encDs dl).set d (D.tup [optD (dl.getD d dflt).first, .int (dl.getD d dflt).need, .tup (natsD (sortN ((dl.getD d dflt).waits ++ [p])))]) = encDs (chg h dl (.wait d p)) := by
      have := encDs_set dl d ⟨(dl.getD d dflt).first, (dl.getD d dflt).need, sortN ((dl.getD d dflt).waits ++ [p])⟩
      exact this
    rw [E2]
    rw [bh_wait o ok]
    rw [Int.add_zero]
    exact xss_retn (xe_call c_raw_standing hr (by decide) C 3 rfl (xa_cons (xe_cells S (xe_v C 0 rfl rfl rfl)) (xa_cons (xe_head S (xe_v C 0 rfl rfl rfl)) (xa_cons (xe_m C 3 rfl rfl rfl rfl) xa_nil))) (ds := [.int c, .int h, .lst (encDs (chg h dl (.wait d p)))]) ⟨_, _, rfl, rfl, _, _, rfl, rfl, _, _, rfl, ⟨3, _, rfl, rfl⟩, rfl⟩ .mkL) rfl
theorem c_behind_wait (D : Df K mg "behind_wait" s_behind_wait) (hg : Glb mg) (S : StdC K CS) (c_raw_standing : CalP P w K mg base 8 "raw_standing" (spD CS R_raw_standing)) : CalP P w K mg base 9 "behind_wait" (spD CS R_behind_wait) :=
  mkD D hg sc_behind_wait ok_behind_wait (by intro _ _ h; cases h <;> rfl) (fun X hX C hr ds r hR => b_behind_wait C hr (hX.std S) (hX.cal c_raw_standing) hR) (fun f fd F => F.binds fun _ _ _ _ _ _ us hl => match us, hl with | [_, _, _], _ => rfl)
inductive R_behind_of : List D → D → Prop
  | mk {b c h : Int} {dl : List Deed} {w : Wish} : Ok b h dl → OkW b dl w → R_behind_of [.std c h (encDs dl), w.enc] (.std c (h + more w) (encDs (bh h dl w)))
theorem b_behind_of (C : Ctx X (defScope s_behind_of) N_behind_of V_behind_of V_behind_of G_behind_of) (hr : Room 9 X.A) (mr : CstS X.mg "ROW" "row") (mo : CstS X.mg "OPEN" "open") (c_behind_row : CalX X 9 "behind_row" (spD CS R_behind_row)) (c_behind_open : CalX X 9 "behind_open" (spD CS R_behind_open)) (c_behind_wait : CalX X 9 "behind_wait" (spD CS R_behind_wait)) {ds : List D} {r : D} (hR : R_behind_of ds r) :
    XSs X CS (defBody s_behind_of) (startD N_behind_of (ds.map Slot.im)) (Pr r) := by
  cases hR with
  | @mk b c h dl w o ok =>
    cases w with
    | row d k n =>
      refine xss_if0 (xt_t (xt_eq (xe_ixT (xe_v C 1 rfl rfl rfl) xe_int rfl rfl) (xe_gs C mr 0 rfl) opd_eqS) (decide_eq_true rfl)) (fun _ => ?_) (by intro z; cases z)
      exact xss_retn (xe_call c_behind_row hr (by decide) C 1 rfl (xa_cons (xe_v C 0 rfl rfl rfl) (xa_cons (xe_ixT (xe_v C 1 rfl rfl rfl) xe_int rfl rfl) (xa_cons (xe_ixT (xe_v C 1 rfl rfl rfl) xe_int rfl rfl) (xa_cons (xe_ixT (xe_v C 1 rfl rfl rfl) xe_int rfl rfl) xa_nil)))) (argc_ds _ [_, _, _, _]) (.mk o ok)) rfl
    | opn k n ws =>
      refine xss_if0 (xt_f (xt_eq (xe_ixT (xe_v C 1 rfl rfl rfl) xe_int rfl rfl) (xe_gs C mr 0 rfl) opd_eqS) (decide_eq_false (by decide +kernel))) (by intro z; cases z) (fun _ => ?_)
      refine xss_if0 (xt_t (xt_eq (xe_ixT (xe_v C 1 rfl rfl rfl) xe_int rfl rfl) (xe_gs C mo 2 rfl) opd_eqS) (decide_eq_true rfl)) (fun _ => ?_) (by intro z; cases z)
      exact xss_retn (xe_call c_behind_open hr (by decide) C 3 rfl (xa_cons (xe_v C 0 rfl rfl rfl) (xa_cons (xe_ixT (xe_v C 1 rfl rfl rfl) xe_int rfl rfl) (xa_cons (xe_ixT (xe_v C 1 rfl rfl rfl) xe_int rfl rfl) (xa_cons (xe_ixT (xe_v C 1 rfl rfl rfl) xe_int rfl rfl) xa_nil)))) (argc_ds _ [_, _, _, _]) (.mk o ok)) rfl
    | wait d p =>
      refine xss_if0 (xt_f (xt_eq (xe_ixT (xe_v C 1 rfl rfl rfl) xe_int rfl rfl) (xe_gs C mr 0 rfl) opd_eqS) (decide_eq_false (by decide +kernel))) (by intro z; cases z) (fun _ => ?_)
      refine xss_if0 (xt_f (xt_eq (xe_ixT (xe_v C 1 rfl rfl rfl) xe_int rfl rfl) (xe_gs C mo 2 rfl) opd_eqS) (decide_eq_false (by decide +kernel))) (by intro z; cases z) (fun _ => ?_)
      exact xss_retn (xe_call c_behind_wait hr (by decide) C 4 rfl (xa_cons (xe_v C 0 rfl rfl rfl) (xa_cons (xe_ixT (xe_v C 1 rfl rfl rfl) xe_int rfl rfl) (xa_cons (xe_ixT (xe_v C 1 rfl rfl rfl) xe_int rfl rfl) xa_nil))) (argc_ds _ [_, _, _]) (.mk o ok)) rfl
theorem c_behind_of (D : Df K mg "behind_of" s_behind_of) (hg : Glb mg) (mr : CstS mg "ROW" "row") (mo : CstS mg "OPEN" "open") (c_behind_row : CalP P w K mg base 9 "behind_row" (spD CS R_behind_row)) (c_behind_open : CalP P w K mg base 9 "behind_open" (spD CS R_behind_open)) (c_behind_wait : CalP P w K mg base 9 "behind_wait" (spD CS R_behind_wait)) : CalP P w K mg base 10 "behind_of" (spD CS R_behind_of) :=
  mkD D hg sc_behind_of ok_behind_of (by intro _ _ h; cases h <;> rfl) (fun X hX C hr ds r hR => b_behind_of C hr (by rw [hX.m]; exact mr) (by rw [hX.m]; exact mo) (hX.cal c_behind_row) (hX.cal c_behind_open) (hX.cal c_behind_wait) hR) (fun f fd F => F.binds fun _ _ _ _ _ _ us hl => match us, hl with | [_, _], _ => rfl)
inductive R_check_easy : List D → D → Prop
  | mk {b c h : Int} {dl : List Deed} : Ok b h dl → fineB c h dl = true → R_check_easy [.std c h (encDs dl)] .non
theorem b_check_easy (C : Ctx X (defScope s_check_easy) N_check_easy V_check_easy V_check_easy G_check_easy) (hr : Room 5 X.A) (c_easy : CalX X 5 "easy" (spD CS R_easy)) {ds : List D} {r : D} (hR : R_check_easy ds r) :
    XSs X CS (defBody s_check_easy) (startD N_check_easy (ds.map Slot.im)) (Pr r) := by
  cases hR with
  | @mk b c h dl o hf =>
    exact xss_if0 (xt_not (xt_v (xn (xn_to (xe_call c_easy hr (by decide) C 0 rfl (xa_cons (xe_v C 0 rfl rfl rfl) xa_nil) (argc_ds _ [_]) (.mk o)) (by rw [hf]))))) (by intro z; cases z) (fun _ => xss_nil rfl)
theorem c_check_easy (D : Df K mg "check_easy" s_check_easy) (hg : Glb mg) (c_easy : CalP P w K mg base 5 "easy" (spD CS R_easy)) : CalP P w K mg base 6 "check_easy" (spD CS R_check_easy) :=
  mkD D hg sc_check_easy ok_check_easy (by intro _ _ h; cases h <;> rfl) (fun X hX C hr ds r hR => b_check_easy C hr (hX.cal c_easy) hR) (fun f fd F => F.binds fun _ _ _ _ _ _ us hl => match us, hl with | [_], _ => rfl)
inductive R_let_by : List D → D → Prop
  | mk {b c h : Int} {dl : List Deed} {w : Wish} : Ok b h dl → OkW b dl w → R_let_by [.std c h (encDs dl), w.enc] (.bl (fineB c (h + more w) (bh h dl w)))
theorem b_let_by (C : Ctx X (defScope s_let_by) N_let_by V_let_by V_let_by G_let_by) (hr : Room 10 X.A) (c_easy : CalX X 5 "easy" (spD CS R_easy)) (c_behind_of : CalX X 10 "behind_of" (spD CS R_behind_of)) {ds : List D} {r : D} (hR : R_let_by ds r) :
    XSs X CS (defBody s_let_by) (startD N_let_by (ds.map Slot.im)) (Pr r) := by
  cases hR with
  | @mk b c h dl w o ok =>
    exact xss_ret (xn (xe_call c_easy hr (by decide) C 0 rfl (xa_cons (xn (xe_call c_behind_of hr (by decide) C 1 rfl (xa_cons (xe_v C 0 rfl rfl rfl) (xa_cons (xe_v C 1 rfl rfl rfl) xa_nil)) (argc_ds _ [_, _]) (.mk o ok))) xa_nil) (argc_ds _ [_]) (.mk (bh_ok o ok)))) rfl rfl
theorem c_let_by (D : Df K mg "let_by" s_let_by) (hg : Glb mg) (c_easy : CalP P w K mg base 5 "easy" (spD CS R_easy)) (c_behind_of : CalP P w K mg base 10 "behind_of" (spD CS R_behind_of)) : CalP P w K mg base 11 "let_by" (spD CS R_let_by) :=
  mkD D hg sc_let_by ok_let_by (by intro _ _ h; cases h <;> rfl) (fun X hX C hr ds r hR => b_let_by C hr (hX.cal c_easy) (hX.cal c_behind_of) hR) (fun f fd F => F.binds fun _ _ _ _ _ _ us hl => match us, hl with | [_, _], _ => rfl)
end K06
/-! M6: the law's closure, by turns; plain Lean. -/
namespace K06
open Classical in
/-- the ascending list of a set below n -/
noncomputable def upL (n : Nat) (S : Nat → Prop) : List Nat := (List.range n).filter fun j => decide (S j)
theorem mem_upL {n : Nat} {S : Nat → Prop} {j : Nat} : j ∈ upL n S ↔ j < n ∧ S j := by
  unfold upL
  rw [List.mem_filter, List.mem_range]
  simp
theorem upL_up (n : Nat) (S : Nat → Prop) : (upL n S).Pairwise (· < ·) := List.Pairwise.filter _ List.pairwise_lt_range
theorem upL_len (n : Nat) (S : Nat → Prop) : (upL n S).length ≤ n := by
  have := List.length_filter_le (fun j => @decide (S j) (Classical.propDecidable _)) (List.range n)
  rw [List.length_range] at this
  exact this
/-- one turn: those found, and all for whom one of them waits -/
def stepS (ws : List (List Nat)) (F : List Nat) (j : Nat) : Prop := j ∈ F ∨ ∃ i ∈ F, ∃ l, ws[i]? = some l ∧ j ∈ l
noncomputable def stepL (ws : List (List Nat)) (F : List Nat) : List Nat := upL ws.length (stepS ws F)
/-- what holds of the found -/
structure CInv (ws : List (List Nat)) (lot F : List Nat) : Prop where
  up : F.Pairwise (· < ·)
  lt : ∀ x ∈ F, x < ws.length
  ltm : ∀ x ∈ lot, x ∈ F
  rc : ∀ x ∈ F, Reach ws lot x
theorem CInv.step {ws : List (List Nat)} {lot F : List Nat} (hw : WfW ws) (c : CInv ws lot F) : CInv ws lot (stepL ws F) := by
  refine ⟨upL_up _ _, fun x hx => (mem_upL.mp hx).1, fun x hx => mem_upL.mpr ⟨c.lt x (c.ltm x hx), .inl (c.ltm x hx)⟩, fun x hx => ?_⟩
  rcases (mem_upL.mp hx).2 with z | ⟨i, hi, l, e, m⟩
  · exact c.rc x z
  · exact .step (c.rc i hi) e m
theorem CInv.sub {ws : List (List Nat)} {lot F : List Nat} (c : CInv ws lot F) : ∀ x ∈ F, x ∈ stepL ws F := fun x hx => mem_upL.mpr ⟨c.lt x hx, .inl hx⟩
theorem sub_len2 : ∀ {l m : List Nat}, l.Nodup → (∀ k ∈ l, k ∈ m) → l.length ≤ m.length
  | [], m, _, _ => Nat.zero_le _
  | a :: l, m, nd, h => by
    obtain ⟨n1, n2⟩ := List.nodup_cons.mp nd
    have ha := h a (by simp)
    have := sub_len2 (m := m.erase a) n2 fun k hk => by
      have ne : k ≠ a := fun z => n1 (z ▸ hk)
      exact (List.mem_erase_of_ne ne).mpr (h k (by simp [hk]))
    rw [List.length_erase_of_mem ha] at this
    have := List.length_pos_of_mem ha
    rw [List.length_cons]
    omega
/-- a sublist of the same length has the same members -/
theorem same_len {l m : List Nat} (nl : l.Nodup) (h : ∀ k ∈ l, k ∈ m) (e : m.length ≤ l.length) (nm : m.Nodup) : ∀ k ∈ m, k ∈ l := fun k hk => by
  refine Classical.byContradiction fun z => ?_
  have := sub_len2 (l := k :: l) (m := m) (List.nodup_cons.mpr ⟨z, nl⟩) fun x hx => by
    rcases List.mem_cons.mp hx with y | y
    · exact y ▸ hk
    · exact h x y
  rw [List.length_cons] at this
  omega
/-- nothing came: all is found -/
theorem CInv.fin {ws : List (List Nat)} {lot F : List Nat} (hw : WfW ws) (hl : ∀ x ∈ lot, x < ws.length) (c : CInv ws lot F) (h : ∀ x ∈ stepL ws F, x ∈ F) : F = clo ws lot := by
  refine up_ext c.up (clo_up _ _) fun k => ?_
  rw [mem_clo hw hl]
  refine ⟨c.rc k, fun r => ?_⟩
  induction r with
  | base m => exact c.ltm _ m
  | @step i j l _ e m ih => exact h j (mem_upL.mpr ⟨hw i l e j m, .inr ⟨i, ih, l, e, m⟩⟩)
/-- either it grows, or all is found -/
theorem CInv.grow {ws : List (List Nat)} {lot F : List Nat} (hw : WfW ws) (hl : ∀ x ∈ lot, x < ws.length) (c : CInv ws lot F) : (stepL ws F).length = F.length ∧ stepL ws F = clo ws lot ∨ F.length < (stepL ws F).length := by
  have h1 := sub_len2 (up_nodup c.up) c.sub
  by_cases e : (stepL ws F).length = F.length
  · refine .inl ⟨e, ?_⟩
    have h2 := same_len (up_nodup c.up) c.sub (by omega) (up_nodup (upL_up _ _))
    have h3 : stepL ws F = F := up_ext (upL_up _ _) c.up fun k => ⟨h2 k, c.sub k⟩
    rw [h3]
    exact c.fin hw hl h2
  · exact .inr (by omega)
/-- full: all is found -/
theorem CInv.full {ws : List (List Nat)} {lot F : List Nat} (hw : WfW ws) (hl : ∀ x ∈ lot, x < ws.length) (c : CInv ws lot F) (h : ws.length ≤ F.length) : F = clo ws lot := by
  refine c.fin hw hl fun x hx => ?_
  have := same_len (l := F) (m := List.range ws.length) (up_nodup c.up) (fun k hk => List.mem_range.mpr (c.lt k hk)) (by rw [List.length_range]; exact h) List.nodup_range
  exact this x (List.mem_range.mpr (mem_upL.mp hx).1)
/-- the waits of the first so many of the found, one behind the other -/
def moreL (ws : List (List Nat)) (F : List Nat) (i : Nat) : List Nat := F ++ ((F.take i).map fun x => ws.getD x []).flatten
theorem moreL_succ {ws : List (List Nat)} {F : List Nat} {i x : Nat} (h : F[i]? = some x) : moreL ws F (i + 1) = moreL ws F i ++ ws.getD x [] := by
  unfold moreL
  rw [List.take_add_one, h]
  simp
theorem mem_moreL {ws : List (List Nat)} {F : List Nat} (hlt : ∀ x ∈ F, x < ws.length) (hw : WfW ws) {j : Nat} : j ∈ moreL ws F F.length ↔ j ∈ stepL ws F := by
  unfold moreL stepL
  rw [mem_upL, List.take_length, List.mem_append, List.mem_flatten]
  constructor
  · rintro (h | ⟨l, hl, hj⟩)
    · exact ⟨hlt j h, .inl h⟩
    · obtain ⟨x, hx, rfl⟩ := List.mem_map.mp hl
      have e : ws[x]? = some (ws.getD x []) := by
        rw [List.getD_eq_getElem?_getD, List.getElem?_eq_getElem (hlt x hx)]
        rfl
      exact ⟨hw x _ e j hj, .inr ⟨x, hx, _, e, hj⟩⟩
  · rintro ⟨_, h | ⟨i, hi, l, e, hj⟩⟩
    · exact .inl h
    · exact .inr ⟨l, List.mem_map.mpr ⟨i, hi, by rw [List.getD_eq_getElem?_getD, e]; rfl⟩, hj⟩
theorem moreL_len {ws : List (List Nat)} {F : List Nat} (hF : F.length ≤ 30) (hw : ∀ l ∈ ws, l.length ≤ 30) (hlt : ∀ x ∈ F, x < ws.length) : ∀ i, i ≤ F.length → (moreL ws F i).length ≤ F.length + 30 * i := fun i => by
  induction i with
  | zero => intro _; simp [moreL]
  | succ i ih =>
    intro hi
    have hg : F[i]? = some F[i] := by simp
    have hx := hlt F[i] (List.getElem_mem _)
    rw [moreL_succ hg, List.length_append]
    have h1 := ih (by omega)
    have : (ws.getD F[i] []).length ≤ 30 := by
      rw [List.getD_eq_getElem?_getD, List.getElem?_eq_getElem hx]
      exact hw _ (List.getElem_mem _)
    omega
theorem Ok.wl {b h : Int} {dl : List Deed} (o : Ok b h dl) : ∀ l ∈ wts dl, l.length ≤ 30 := fun l hl => by
  obtain ⟨d, hd, rfl⟩ := List.mem_map.mp hl
  obtain ⟨i, hi⟩ := List.mem_iff_getElem?.mp hd
  exact Nat.le_trans (nodup_len (up_nodup (o.wt i d hi).up) (o.wt i d hi).lt) o.len
theorem wts_getD {dl : List Deed} {i : Nat} (h : i < dl.length) : (wts dl).getD i [] = (dl.getD i dflt).waits := by
  rw [List.getD_eq_getElem?_getD, wts_get (getD_some h)]
  rfl
end K06
namespace K06
def firstsL (dl : List Deed) : List Int := dl.filterMap (·.first)
theorem used_of {b h : Int} {dl : List Deed} (o : Ok b h dl) : (firstsL dl = [] ∧ used0 h dl = 0) ∨ ∃ m, m ∈ firstsL dl ∧ (∀ y ∈ firstsL dl, m ≤ y) ∧ used0 h dl = h - m ∧ 0 < (firstsL dl).length := by
  cases dl with
  | nil => exact .inl ⟨rfl, rfl⟩
  | cons d dl =>
    obtain ⟨h1, h2⟩ := List.pairwise_cons.mp o.up
    cases q : d.first with
    | none =>
      refine .inl ⟨?_, by simp [used0, q]⟩
      unfold firstsL
      rw [List.filterMap_eq_nil_iff]
      intro y hy
      rcases List.mem_cons.mp hy with z | z
      · rw [z]; exact q
      · rcases h1 y z with w | ⟨a, _, w, _⟩
        · exact w
        · rw [q] at w; cases w
    | some f =>
      refine .inr ⟨f, ?_, fun y hy => ?_, by simp [used0, q], ?_⟩
      · exact List.mem_filterMap.mpr ⟨d, by simp, q⟩
      · obtain ⟨x, hx, e⟩ := List.mem_filterMap.mp hy
        rcases List.mem_cons.mp hx with z | z
        · rw [z, q] at e
          have := Option.some.inj e
          omega
        · rcases h1 x z with w | ⟨a, c, w1, w2, w3⟩
          · rw [w] at e; cases e
          · rw [q] at w1
            rw [w2] at e
            have := Option.some.inj w1
            have := Option.some.inj e
            omega
      · exact List.length_pos_of_mem (List.mem_filterMap.mpr ⟨d, by simp, q⟩)
end K06
/-! D7: the law's loads. -/
namespace K06
open PySem PySem.Spec L2
variable {P : Program} {w : World} {K : PySem.W.Frag} {mg : Str → Option Value} {base : Heap} {CS : Addr} {X : Cx}
inductive R_L_closure : List D → D → Prop
  | mk {b h : Int} {dl : List Deed} {lot : List Nat} : Ok b h dl → (∀ x ∈ lot, x < dl.length) → lot.length ≤ 31 → R_L_closure [.tup (encDs dl), .lst (natsD lot)] (.tup (natsD (clo (wts dl) lot)))
theorem cast_iff {as bs : List Nat} (h : ∀ k, k ∈ as ↔ k ∈ bs) (k : Int) : k ∈ (as.map fun i => ((i : Nat) : Int)) ↔ k ∈ (bs.map fun i => ((i : Nat) : Int)) := by
  rw [List.mem_map, List.mem_map]
  constructor
  · rintro ⟨a, m, rfl⟩
    exact ⟨a, (h a).mp m, rfl⟩
  · rintro ⟨a, m, rfl⟩
    exact ⟨a, (h a).mpr m, rfl⟩
theorem b_L_closure (C : Ctx X (defScope s_L_closure) N_L_closure V_L_closure V_L_closure G_L_closure) (hr : Room 0 X.A) {ds : List D} {r : D} (hR : R_L_closure ds r) :
    XSs X CS (defBody s_L_closure) (startD N_L_closure (ds.map Slot.im)) (Pr r) := by
  cases hR with
  | @mk b h dl lot o hlot hll =>
    have hlen := o.len
    have hw := o.wf
    have hlw : ∀ x ∈ lot, x < (wts dl).length := by intro x hx; rw [wts_len]; exact hlot x hx
    have hwn := wts_len dl
    have up64 : ∀ S, ((upL (wts dl).length S).map fun i => ((i : Nat) : Int)).length < 64 := fun S => by
      have := upL_len (wts dl).length S
      rw [List.length_map]
      omega
    refine xss_set C 2 rfl rfl (xn (xe_sset (ms := (upL (wts dl).length (· ∈ lot)).map fun i => ((i : Nat) : Int)) C 0 1 rfl rfl (xe_v C 1 rfl rfl rfl) rfl (by rw [List.length_map]; omega) (up64 _) (cast_ups (upL_up _ _)) (cast_iff fun k => by rw [mem_upL]; exact ⟨fun z => z.2, fun z => ⟨hlw k z, z⟩⟩))) ?_ (lt_of rfl)
    have c0 : CInv (wts dl) lot (upL (wts dl).length (· ∈ lot)) := ⟨upL_up _ _, fun x hx => (mem_upL.mp hx).1, fun x hx => mem_upL.mpr ⟨hlw x hx, hx⟩, fun x hx => .base (mem_upL.mp hx).2⟩
    refine xss_for C (xi_r (n := dl.length) C 2 rfl (xe_i (xe_len C 3 rfl (xe_v C 0 rfl rfl rfl) (.inr rfl)) (by rw [encDs_len])) (by omega)) (fun i δ => ∃ F x3 x4 x5 x6, δ = [some (.im (.tup (encDs dl))), some (.im (.lst (natsD lot))), some (.im (.lst (natsD F))), x3, x4, x5, x6] ∧ CInv (wts dl) lot F ∧ i ≤ F.length)
      (fun δ => ∃ x3 x4 x5 x6, δ = [some (.im (.tup (encDs dl))), some (.im (.lst (natsD lot))), some (.im (.lst (natsD (clo (wts dl) lot)))), x3, x4, x5, x6]) ⟨_, none, none, none, none, rfl, c0, Nat.zero_le _⟩ (fun i d δ hd hI => ?_) (fun δ hI => ?_) (fun δ ⟨x3, x4, x5, x6, e⟩ => by
        subst e
        exact xss_ret (xe_tuple C 5 rfl (xe_v C 2 rfl rfl rfl) rfl) rfl (LFs_nats _))
    · obtain ⟨F, x3, x4, x5, x6, rfl, ci, hiF⟩ := hI
      have hF30 : F.length ≤ 30 := by
        have := nodup_len (up_nodup ci.up) ci.lt
        omega
      refine ⟨_, _, (xg_n C 3 rfl rfl (lt_of rfl)), ?_⟩
      refine xss_set C 4 rfl rfl (xn (xe_list C 4 rfl (xe_v C 2 rfl rfl rfl) (.inl rfl) (LFs_nats F))) ?_ (lt_of rfl)
      refine xss_for C (xi_l (xe_v C 2 rfl rfl rfl) rfl) (fun m δ => ∃ x5, δ = [some (.im (.tup (encDs dl))), some (.im (.lst (natsD lot))), some (.im (.lst (natsD F))), some (.im d), some (.im (.lst (natsD (moreL (wts dl) F m)))), x5, x6]) _ ⟨x5, by
          have e0 : moreL (wts dl) F 0 = F := by simp [moreL]
          rw [e0]
          rfl⟩ (fun m d2 δ hd2 hI => ?_) (fun δ z => z) (fun δ hI => ?_)
      · obtain ⟨x5', rfl⟩ := hI
        obtain ⟨x, hx, rfl⟩ := natsD_of hd2
        have hxl : x < dl.length := by rw [← hwn]; exact ci.lt x (List.mem_of_getElem? hx)
        have hml : m < F.length := (List.getElem?_eq_some_iff.mp hx).1
        have hmo := moreL_len hF30 o.wl ci.lt m (by omega)
        have hwx : (dl.getD x dflt).waits.length ≤ 30 := o.wl _ (List.mem_of_getElem? (wts_get (getD_some hxl)))
        have E : natsD (moreL (wts dl) F m) ++ natsD (dl.getD x dflt).waits = natsD (moreL (wts dl) F (m + 1)) := by rw [moreL_succ hx, natsD_app, wts_getD hxl]
        refine ⟨_, _, (xg_n C 5 rfl rfl (lt_of rfl)), ?_⟩
        refine xss_set (x := .lst (natsD (moreL (wts dl) F (m + 1)))) C 4 rfl rfl (xn (xn_to (xe_cat (xe_v C 4 rfl rfl rfl) (xe_list C 4 rfl (xe_ixT (xe_ixT (xe_v C 0 rfl rfl rfl) (xe_v C 5 rfl rfl rfl) rfl (atI_nat (encDs_get (getD_some hxl)))) xe_int rfl rfl) (.inr rfl) (LFs_nats _)) rfl rfl (by rw [natsD_len, natsD_len]; omega) (by rw [E]; exact LFs_nats _)) (by rw [E]))) (xss_nil ⟨_, rfl⟩) (lt_of rfl)
      · obtain ⟨x5', rfl⟩ := hI
        rw [natsD_len]
        have hmo := moreL_len hF30 o.wl ci.lt F.length (Nat.le_refl _)
        refine xss_set C 6 rfl rfl (xe_len C 3 rfl (xe_v C 2 rfl rfl rfl) (.inl rfl)) ?_ (lt_of rfl)
        refine xss_set C 2 rfl rfl (xn (xe_sset (ms := (stepL (wts dl) F).map fun i => ((i : Nat) : Int)) C 0 1 rfl rfl (xe_v C 4 rfl rfl rfl) rfl (by rw [List.length_map]; omega) (up64 _) (cast_ups (upL_up _ _)) (cast_iff fun k => (mem_moreL ci.lt hw).symm))) ?_ (lt_of rfl)
        refine xss_if0 (xt_eq (xe_len C 3 rfl (xe_v C 2 rfl rfl rfl) (.inl rfl)) (xe_v C 6 rfl rfl rfl) opd_eqI) (fun hb => ?_) (fun hb => ?_)
        · have hb' := of_decide_eq_true hb
          have e3 : (((stepL (wts dl) F).map fun i => ((i : Nat) : Int)).map K06.D.int).length = (stepL (wts dl) F).length := natsD_len _
          rw [e3, natsD_len F] at hb'
          rcases ci.grow hw hlw with ⟨_, e⟩ | e
          · have e2 : ((stepL (wts dl) F).map fun i => ((i : Nat) : Int)).map D.int = natsD (clo (wts dl) lot) := by rw [e]
            rw [e2]
            exact xss_brk ⟨_, _, _, _, rfl⟩
          · exfalso
            omega
        · refine xss_nil ⟨stepL (wts dl) F, _, _, _, _, rfl, ci.step hw, ?_⟩
          have hb' := of_decide_eq_false hb
          have e2 : (((stepL (wts dl) F).map fun i => ((i : Nat) : Int)).map K06.D.int).length = (stepL (wts dl) F).length := natsD_len _
          rw [e2, natsD_len F] at hb'
          rcases ci.grow hw hlw with ⟨e, _⟩ | e
          · exfalso
            omega
          · omega
    · obtain ⟨F, x3, x4, x5, x6, rfl, ci, hiF⟩ := hI
      rw [natsD_len, List.length_range] at hiF
      have := ci.full hw hlw (by omega)
      rw [← this]
      exact ⟨_, _, _, _, rfl⟩
theorem c_L_closure (D : Df K mg "_law_closure" s_L_closure) (hg : Glb mg) : CalP P w K mg base 1 "_law_closure" (spD CS R_L_closure) :=
  mkD D hg sc_L_closure ok_L_closure (by intro _ _ h; cases h <;> rfl) (fun X hX C hr ds r hR => b_L_closure C hr hR) (fun f fd F => F.binds fun _ _ _ _ _ _ us hl => match us, hl with | [_, _], _ => rfl)
noncomputable def claimL (dl : List Deed) (i : Nat) : List Nat := if (dl.getD i dflt).first = none then [i] else clo (wts dl) (List.range (i + 1))
inductive R_L_claim : List D → D → Prop
  | mk {b h : Int} {dl : List Deed} {i : Nat} : Ok b h dl → i < dl.length → R_L_claim [.tup (encDs dl), .int (i : Nat)] (.tup (natsD (claimL dl i)))
theorem b_L_claim (C : Ctx X (defScope s_L_claim) N_L_claim V_L_claim V_L_claim G_L_claim) (hr : Room 1 X.A) (c_L_closure : CalX X 1 "_law_closure" (spD CS R_L_closure)) {ds : List D} {r : D} (hR : R_L_claim ds r) :
    XSs X CS (defBody s_L_claim) (startD N_L_claim (ds.map Slot.im)) (Pr r) := by
  cases hR with
  | @mk b h dl i o hi =>
    have hlen := o.len
    cases q : (dl.getD i dflt).first with
    | none =>
      refine xss_if0 (xt_t (xt_isN (xe_ixT (xe_ixT (xe_v C 0 rfl rfl rfl) (xe_v C 1 rfl rfl rfl) rfl (atI_nat (encDs_get (getD_some hi)))) xe_int rfl rfl)) (by rw [q]; rfl)) (fun _ => ?_) (by intro z; cases z)
      have e : claimL dl i = [i] := if_pos q
      rw [e]
      exact xss_ret (xe_tup (ds := [_]) (xa_cons (xe_v C 1 rfl rfl rfl) xa_nil) (le_of rfl)) rfl rfl
    | some f =>
      refine xss_if0 (xt_f (xt_isN (xe_ixT (xe_ixT (xe_v C 0 rfl rfl rfl) (xe_v C 1 rfl rfl rfl) rfl (atI_nat (encDs_get (getD_some hi)))) xe_int rfl rfl)) (by rw [q]; rfl)) (by intro z; cases z) (fun _ => ?_)
      have e : claimL dl i = clo (wts dl) (List.range (i + 1)) := if_neg (by rw [q]; simp)
      rw [e]
      exact xss_ret (xn (xe_call c_L_closure hr (by decide) C 0 rfl (xa_cons (xe_v C 0 rfl rfl rfl) (xa_cons (xn (xe_listR (n := i + 1) C 1 2 rfl rfl (xe_i (xe_add (xe_v C 1 rfl rfl rfl) xe_int) (by omega)) (by omega))) xa_nil)) (argc_ds _ [_, _]) (.mk o (fun x hx => by have := List.mem_range.mp hx; omega) (by rw [List.length_range]; omega)))) rfl (LFs_nats _)
theorem c_L_claim (D : Df K mg "_law_claim" s_L_claim) (hg : Glb mg) (c_L_closure : CalP P w K mg base 1 "_law_closure" (spD CS R_L_closure)) : CalP P w K mg base 2 "_law_claim" (spD CS R_L_claim) :=
  mkD D hg sc_L_claim ok_L_claim (by intro _ _ h; cases h <;> rfl) (fun X hX C hr ds r hR => b_L_claim C hr (hX.cal c_L_closure) hR) (fun f fd F => F.binds fun _ _ _ _ _ _ us hl => match us, hl with | [_, _], _ => rfl)
inductive R_L_load : List D → D → Prop
  | mk {b h : Int} {dl : List Deed} {i : Nat} : Ok b h dl → i < dl.length → R_L_load [.int h, .tup (encDs dl), .int (i : Nat)] (.int (load h dl i))
theorem claimL_lt {b h : Int} {dl : List Deed} (o : Ok b h dl) {i : Nat} (hi : i < dl.length) : (claimL dl i).length ≤ 30 ∧ ∀ x ∈ claimL dl i, x < dl.length := by
  unfold claimL
  by_cases q : (dl.getD i dflt).first = none
  · rw [if_pos q]
    exact ⟨by simp, fun x hx => by rw [List.mem_singleton.mp hx]; exact hi⟩
  · rw [if_neg q]
    refine ⟨Nat.le_trans (clo_len _ _) (by rw [wts_len]; exact o.len), fun x hx => ?_⟩
    have := clo_lt hx
    rwa [wts_len] at this
theorem load_claim {h : Int} {dl : List Deed} {i : Nat} (hi : i < dl.length) : load h dl i = (match (dl.getD i dflt).first with | none => 0 | some f => h - f) + needSum dl (claimL dl i) := by
  unfold claimL
  cases q : (dl.getD i dflt).first with
  | none =>
    rw [load_none (getD_some hi) q, if_pos rfl]
    simp [needSum, needAt_of (getD_some hi)]
  | some f =>
    rw [load_some (getD_some hi) q, if_neg (by simp)]
theorem b_L_load (C : Ctx X (defScope s_L_load) N_L_load V_L_load V_L_load G_L_load) (hr : Room 2 X.A) (c_L_claim : CalX X 2 "_law_claim" (spD CS R_L_claim)) {ds : List D} {r : D} (hR : R_L_load ds r) :
    XSs X CS (defBody s_L_load) (startD N_L_load (ds.map Slot.im)) (Pr r) := by
  cases hR with
  | @mk b h dl i o hi =>
    obtain ⟨hcl, hclt⟩ := claimL_lt o hi
    have hix : L2.atI (encDs dl) ((i : Nat) : Int) = some (dl.getD i dflt).enc := atI_nat (encDs_get (getD_some hi))
    refine xss_set (x := .int (match (dl.getD i dflt).first with | none => 0 | some f => h - f)) C 3 rfl rfl (xe_if (p := (dl.getD i dflt).first.isNone) (xt_b (xt_isN (xe_ixT (xe_ixT (xe_v C 1 rfl rfl rfl) (xe_v C 2 rfl rfl rfl) rfl hix) xe_int rfl rfl)) (isNon_optD _)) (fun hb => xe_to xe_int (by cases q : (dl.getD i dflt).first with | none => rfl | some f => rw [q] at hb; cases hb)) (fun hb => ?_)) ?_ (lt_of rfl)
    · cases q : (dl.getD i dflt).first with
      | none => rw [q] at hb; cases hb
      | some f => exact xe_sub (xe_v C 0 rfl rfl rfl) (xe_to (xe_ixT (xe_ixT (xe_v C 1 rfl rfl rfl) (xe_v C 2 rfl rfl rfl) rfl hix) xe_int rfl rfl) (by rw [q]; rfl))
    · rw [load_claim hi]
      refine xss_ret (xe_add (xe_v C 3 rfl rfl rfl) (xe_sum (ns := (claimL dl i).map (needAt dl)) C 0 rfl (xe_lcP (own := [("_law_other", 4)]) (fun m => some (.int (needAt dl ((claimL dl i).getD m 0)))) C [1, 4] [4] [] (xi_t (xn (xe_call c_L_claim hr (by decide) C 1 rfl (xa_cons (xe_v C 1 rfl rfl rfl) (xa_cons (xe_v C 2 rfl rfl rfl) xa_nil)) (argc_ds _ [_, _]) (.mk o hi))) rfl) (by decide +kernel) (by decide +kernel) (LFs_nats _) (by rw [natsD_len]; omega) (fun m d hd => ?_) ?_) rfl)) rfl rfl
      · obtain ⟨x, hx, rfl⟩ := natsD_of hd
        have hxl := hclt x (List.mem_of_getElem? hx)
        have eg : (claimL dl i).getD m 0 = x := by rw [List.getD_eq_getElem?_getD, hx]; rfl
        refine ⟨_, _, true, rfl, fun Y hB D => (xg_n D 4 rfl rfl (lt_of rfl)), fun Y hB D => xts_nil, fun _ => ⟨_, rfl, fun Y hB D => xe_to (xe_ixT (xe_ixT (xe_v D 1 rfl rfl rfl) (xe_v D 4 rfl rfl rfl) rfl (atI_nat (encDs_get (getD_some hxl)))) xe_int rfl rfl) (by rw [eg, needAt_of (getD_some hxl)]), rfl⟩, (by intro z; cases z), rfl⟩
      · rw [natsD_len, fm_some, List.map_map]
        exact range_get _ _ _ fun m x hx => by rw [List.getD_eq_getElem?_getD, hx]; rfl
theorem c_L_load (D : Df K mg "_law_load" s_L_load) (hg : Glb mg) (c_L_claim : CalP P w K mg base 2 "_law_claim" (spD CS R_L_claim)) : CalP P w K mg base 3 "_law_load" (spD CS R_L_load) :=
  mkD D hg sc_L_load ok_L_load (by intro _ _ h; cases h <;> rfl) (fun X hX C hr ds r hR => b_L_load C hr (hX.cal c_L_claim) hR) (fun f fd F => F.binds fun _ _ _ _ _ _ us hl => match us, hl with | [_, _, _], _ => rfl)
inductive R_L_loads : List D → D → Prop
  | mk {b h : Int} {dl : List Deed} : Ok b h dl → R_L_loads [.int h, .tup (encDs dl)] (.tup ((loads h dl).map D.int))
theorem b_L_loads (C : Ctx X (defScope s_L_loads) N_L_loads V_L_loads V_L_loads G_L_loads) (hr : Room 3 X.A) (c_L_load : CalX X 3 "_law_load" (spD CS R_L_load)) {ds : List D} {r : D} (hR : R_L_loads ds r) :
    XSs X CS (defBody s_L_loads) (startD N_L_loads (ds.map Slot.im)) (Pr r) := by
  cases hR with
  | @mk b h dl o =>
    have hlen := o.len
    refine xss_ret (xe_tuple C 0 rfl (xe_lcP (own := [("_law_deed", 2)]) (fun m => some (.int (load h dl m))) C [0, 1, 2] [2] ["_law_load"] (xi_r (n := dl.length) C 1 rfl (xe_i (xe_len C 2 rfl (xe_v C 1 rfl rfl rfl) (.inr rfl)) (by rw [encDs_len])) (by omega)) (by decide +kernel) (by decide +kernel) (LFs_nats _) (by rw [natsD_len, List.length_range]; omega) (fun m d hd => ?_) ?_) rfl) rfl (LFs_ints _)
    · obtain ⟨x, hx, rfl⟩ := natsD_of hd
      obtain ⟨hm, rfl⟩ : m < dl.length ∧ x = m := by
        have h1 := (List.getElem?_eq_some_iff.mp hx).1
        rw [List.length_range] at h1
        rw [List.getElem?_range h1] at hx
        exact ⟨h1, (Option.some.inj hx).symm⟩
      exact ⟨_, _, true, rfl, fun Y hB D => (xg_n D 2 rfl rfl (lt_of rfl)), fun Y hB D => xts_nil, fun _ => ⟨_, rfl, fun Y hB D => (xn (xe_call (CalP.blk c_L_load hB) (Room.blk hr hB) (by decide) D 0 rfl (xa_cons (xe_v D 0 rfl rfl rfl) (xa_cons (xe_v D 1 rfl rfl rfl) (xa_cons (xe_v D 2 rfl rfl rfl) xa_nil))) (argc_ds _ [_, _, _]) (.mk o hm))), rfl⟩, (by intro z; cases z), rfl⟩
    · rw [natsD_len, List.length_range, fm_some]
      simp [loads]
theorem c_L_loads (D : Df K mg "_law_loads" s_L_loads) (hg : Glb mg) (c_L_load : CalP P w K mg base 3 "_law_load" (spD CS R_L_load)) : CalP P w K mg base 4 "_law_loads" (spD CS R_L_loads) :=
  mkD D hg sc_L_loads ok_L_loads (by intro _ _ h; cases h <;> rfl) (fun X hX C hr ds r hR => b_L_loads C hr (hX.cal c_L_load) hR) (fun f fd F => F.binds fun _ _ _ _ _ _ us hl => match us, hl with | [_, _], _ => rfl)
inductive R_L_used : List D → D → Prop
  | mk {b h : Int} {dl : List Deed} : Ok b h dl → R_L_used [.int h, .tup (encDs dl)] (.int (used0 h dl))
theorem firstF (dl : List Deed) : ((List.range (encDs dl).length).filterMap fun i => (dl.getD i dflt).first.map D.int) = (firstsL dl).map D.int := by
  rw [encDs_len, range_fm dl (fun d => d.first.map D.int) _ fun i x h => by rw [getD_of h]]
  unfold firstsL
  rw [List.map_filterMap]
theorem b_L_used (C : Ctx X (defScope s_L_used) N_L_used V_L_used V_L_used G_L_used) (hr : Room 0 X.A) {ds : List D} {r : D} (hR : R_L_used ds r) :
    XSs X CS (defBody s_L_used) (startD N_L_used (ds.map Slot.im)) (Pr r) := by
  cases hR with
  | @mk b h dl o =>
    have hlen := o.len
    refine xss_setLcP (own := [("_law_deed", 3)]) (fun i => (dl.getD i dflt).first.map D.int) C 2 rfl rfl (by decide +kernel) [3] [3] [] (xi_t (xe_v C 1 rfl rfl rfl) rfl) (by decide +kernel) (by decide +kernel) (lf_encs dl) (by rw [encDs_len]; omega) (fun i d hd => ?_) (firstF dl) rfl rfl (by decide +kernel) (lt_of rfl) ?_
    · obtain ⟨dd, e, rfl⟩ := encDs_of hd
      have e2 := getD_of e
      refine ⟨_, _, (!(optD dd.first).isNon), rfl, fun Y hB D => (xg_n D 3 rfl rfl (lt_of rfl)), fun Y hB D => (xts_one (xt_notN (xe_ixT (xe_v D 3 rfl rfl rfl) xe_int rfl rfl))), fun hb => ⟨optD dd.first, ?_, fun Y hB D => (xe_ixT (xe_v D 3 rfl rfl rfl) xe_int rfl rfl), lf_optD _⟩, fun hb => ?_, rfl⟩
      · rw [e2]
        cases q : dd.first with
        | none => rw [q] at hb; cases hb
        | some f => rfl
      · rw [e2]
        cases q : dd.first with
        | none => rfl
        | some f => rw [q] at hb; cases hb
    · have ll : ((firstsL dl).map D.int).length = (firstsL dl).length := List.length_map _
      rcases used_of o with ⟨e1, e2⟩ | ⟨m, m1, m2, e2, m3⟩
      · rw [e2]
        exact xss_ret (xe_if (xt_f (xt_gt (xe_len C 0 rfl (xe_v C 2 rfl rfl rfl) (.inl rfl)) xe_int) (decide_eq_false (by rw [ll, e1]; simp))) (by intro z; cases z) (fun _ => xe_int)) rfl rfl
      · rw [e2]
        exact xss_ret (xe_if (xt_t (xt_gt (xe_len C 0 rfl (xe_v C 2 rfl rfl rfl) (.inl rfl)) xe_int) (decide_eq_true (by rw [ll]; omega))) (fun _ => (xe_sub (xe_v C 0 rfl rfl rfl) (xe_min C 1 rfl (xe_v C 2 rfl rfl rfl) rfl m1 m2))) (by intro z; cases z)) rfl rfl
theorem c_L_used (D : Df K mg "_law_used" s_L_used) (hg : Glb mg) : CalP P w K mg base 1 "_law_used" (spD CS R_L_used) :=
  mkD D hg sc_L_used ok_L_used (by intro _ _ h; cases h <;> rfl) (fun X hX C hr ds r hR => b_L_used C hr hR) (fun f fd F => F.binds fun _ _ _ _ _ _ us hl => match us, hl with | [_, _], _ => rfl)
inductive R_L_fine : List D → D → Prop
  | mk {b c h : Int} {dl : List Deed} : Ok b h dl → R_L_fine [.tup [.int c, .int h, .tup (encDs dl)]] (.bl (fineB c h dl))
theorem b_L_fine (C : Ctx X (defScope s_L_fine) N_L_fine V_L_fine V_L_fine G_L_fine) (hr : Room 4 X.A) (c_L_loads : CalX X 4 "_law_loads" (spD CS R_L_loads)) {ds : List D} {r : D} (hR : R_L_fine ds r) :
    XSs X CS (defBody s_L_fine) (startD N_L_fine (ds.map Slot.im)) (Pr r) := by
  cases hR with
  | @mk b c h dl o =>
    have hlen := o.len
    refine xss_ret (xe_b (xe_all (ns := (loads h dl).map fun l => decide (l ≤ c)) C 0 rfl (xe_lcP (own := [("_law_load_here", 1)]) (fun m => some (.bl (decide ((loads h dl).getD m 0 ≤ c)))) C [0, 1] [1] [] (xi_t (xn (xe_call c_L_loads hr (by decide) C 1 rfl (xa_cons (xe_ixT (xe_v C 0 rfl rfl rfl) xe_int rfl rfl) (xa_cons (xe_ixT (xe_v C 0 rfl rfl rfl) xe_int rfl rfl) xa_nil)) (argc_ds _ [_, _]) (.mk o))) rfl) (by decide +kernel) (by decide +kernel) (LFs_ints _) (by rw [List.length_map, loads_len]; omega) (fun m d hd => ?_) ?_) rfl) ?_) rfl rfl
    · rw [List.getElem?_map] at hd
      cases q : (loads h dl)[m]? with
      | none => rw [q] at hd; cases hd
      | some l =>
        rw [q] at hd
        cases hd
        refine ⟨_, _, true, rfl, fun Y hB D => (xg_n D 1 rfl rfl (lt_of rfl)), fun Y hB D => xts_nil, fun _ => ⟨_, rfl, fun Y hB D => xe_b (xe_le (xe_v D 1 rfl rfl rfl) (xe_ixT (xe_v D 0 rfl rfl rfl) xe_int rfl rfl)) (by rw [List.getD_eq_getElem?_getD, q]; rfl), rfl⟩, (by intro z; cases z), rfl⟩
    · rw [List.length_map, fm_some, List.map_map]
      exact range_get _ _ _ fun m x hx => by rw [List.getD_eq_getElem?_getD, hx]; rfl
    · unfold fineB
      rw [List.all_map]
      rfl
theorem c_L_fine (D : Df K mg "_law_fine" s_L_fine) (hg : Glb mg) (c_L_loads : CalP P w K mg base 4 "_law_loads" (spD CS R_L_loads)) : CalP P w K mg base 5 "_law_fine" (spD CS R_L_fine) :=
  mkD D hg sc_L_fine ok_L_fine (by intro _ _ h; cases h <;> rfl) (fun X hX C hr ds r hR => b_L_fine C hr (hX.cal c_L_loads) hR) (fun f fd F => F.binds fun _ _ _ _ _ _ us hl => match us, hl with | [_], _ => rfl)
end K06
/-! M7: the order by age; plain Lean. -/
namespace K06
/-- has the i-th begun? -/
def beg (dl : List Deed) (i : Nat) : Bool := (dl.getD i dflt).first.isSome
theorem split_elder {dl : List Deed} : ∀ {ord : List Nat}, (ord.Pairwise fun i j => Elder (dl.getD i dflt) (dl.getD j dflt)) → ord.filter (beg dl) ++ ord.filter (fun i => !beg dl i) = ord
  | [], _ => rfl
  | a :: ord, h => by
    obtain ⟨h1, h2⟩ := List.pairwise_cons.mp h
    have ih := split_elder h2
    by_cases q : beg dl a = true
    · rw [List.filter_cons_of_pos q, List.filter_cons_of_neg (by simp [q]), List.cons_append, ih]
    · have q' : beg dl a = false := by simpa using q
      have none_all : ∀ x ∈ ord, beg dl x = false := fun x hx => by
        rcases h1 x hx with z | ⟨f, _, z, _⟩
        · unfold beg
          rw [z]
          rfl
        · exfalso
          unfold beg at q'
          rw [z] at q'
          cases q'
      have e1 : ord.filter (beg dl) = [] := List.filter_eq_nil_iff.mpr fun x hx => by simp [none_all x hx]
      have e2 : ord.filter (fun i => !beg dl i) = ord := List.filter_eq_self.mpr fun x hx => by simp [none_all x hx]
      rw [List.filter_cons_of_neg q, List.filter_cons_of_pos (by simp [q']), e1, e2]
      rfl
theorem ordr_none_up {b h : Int} {dl : List Deed} {w : Wish} (o : Ok b h dl) (k : OkW b dl w) : ((ordr dl w).filter fun i => !beg (chg h dl w) i).Pairwise (· < ·) := by
  have insF : ∀ (l : List Nat) (m d : Nat) (p : Nat → Bool), p d = false → (insAt l m d).filter p = l.filter p := fun l m d p hp => by
    unfold insAt
    rw [List.filter_append, List.filter_append, List.filter_cons_of_neg (by simp [hp]), List.filter_nil, List.append_nil, ← List.filter_append, List.take_append_drop]
  cases k with
  | @row d c n hd c1 c2 n1 n2 =>
    simp only [ordr]
    by_cases q : (dl.getD d dflt).first = none
    · rw [if_pos q, insF]
      · exact (List.pairwise_lt_range.sublist List.erase_sublist).filter _
      · have : (chg h dl (.row d c n)).getD d dflt = _ := set_getD hd
        unfold beg
        rw [this, if_pos rfl]
        rfl
    · rw [if_neg q]
      exact List.pairwise_lt_range.filter _
  | @opn c n ws c1 c2 n1 n2 hws hlt =>
    simp only [ordr]
    by_cases q : 0 < c
    · rw [if_pos q, insF]
      · exact List.pairwise_lt_range.filter _
      · have : (chg h dl (.opn c n ws)).getD dl.length dflt = _ := app_getD
        rw [if_neg (Nat.lt_irrefl _), if_pos rfl] at this
        unfold beg
        rw [this]
        simp [q]
    · rw [if_neg q]
      exact List.pairwise_lt_range.filter _
  | wait => exact List.pairwise_lt_range.filter _
/-- the order is that by age -/
theorem aged_ok {b h : Int} {dl : List Deed} {w : Wish} (o : Ok b h dl) (k : OkW b dl w) : ∃ bs : List Nat, bs.Perm ((List.range (chg h dl w).length).filter (beg (chg h dl w))) ∧ (bs.Pairwise fun i j => ∃ x y, ((chg h dl w).getD i dflt).first = some x ∧ ((chg h dl w).getD j dflt).first = some y ∧ x < y) ∧
    bs ++ (List.range (chg h dl w).length).filter (fun i => !beg (chg h dl w) i) = ordr dl w := by
  have z := bh0 o k
  refine ⟨(ordr dl w).filter (beg (chg h dl w)), z.perm.filter _, ?_, ?_⟩
  · refine (z.up.filter _).imp_of_mem fun {i j} hi hj e => ?_
    have hj2 := (List.mem_filter.mp hj).2
    rcases e with y | ⟨x, y, e1, e2, e3⟩
    · unfold beg at hj2
      rw [y] at hj2
      cases hj2
    · exact ⟨x, y, e1, e2, e3⟩
  · have e : (List.range (chg h dl w).length).filter (fun i => !beg (chg h dl w) i) = (ordr dl w).filter (fun i => !beg (chg h dl w) i) := by
      refine up_ext (List.pairwise_lt_range.filter _) (ordr_none_up o k) fun x => ?_
      rw [List.mem_filter, List.mem_filter, z.perm.mem_iff]
    rw [e]
    exact split_elder z.up
theorem idxOf_first {l : List Nat} {x : Nat} (h : x ∈ l) : l[l.idxOf x]? = some x ∧ ∀ m, m < l.idxOf x → l[m]? ≠ some x := by
  refine ⟨?_, fun m hm e => ?_⟩
  · rw [List.getElem?_eq_getElem (List.idxOf_lt_length_of_mem h), List.getElem_idxOf]
  · have h1 : m < l.length := (List.getElem?_eq_some_iff.mp e).1
    have := List.not_of_lt_findIdx (p := (· == x)) (xs := l) (i := m) hm
    rw [List.getElem?_eq_getElem h1] at e
    simp [Option.some.inj e] at this
/-- the bare deeds -/
def bare (dl : List Deed) : List Deed := dl.map fun d => ⟨d.first, d.need, []⟩
theorem Ok.bare {b h : Int} {dl : List Deed} (o : Ok b h dl) : Ok b h (bare dl) := by
  refine ⟨by simp [K06.bare]; exact o.len, o.h0, o.hb, fun d hd => ?_, fun d hd => ?_, ?_, fun i d e => ?_, ⟨fun _ => 0, fun i l hl j hj => ?_⟩⟩
  · obtain ⟨x, hx, rfl⟩ := List.mem_map.mp hd
    exact o.need x hx
  · obtain ⟨x, hx, rfl⟩ := List.mem_map.mp hd
    exact o.fst x hx
  · unfold K06.bare
    rw [List.pairwise_map]
    exact o.up.imp fun h => h
  · have : d ∈ K06.bare dl := List.mem_of_getElem? e
    obtain ⟨x, hx, rfl⟩ := List.mem_map.mp this
    exact ⟨List.Pairwise.nil, by simp⟩
  · have : l ∈ wts (K06.bare dl) := List.mem_of_getElem? hl
    obtain ⟨d, hd, rfl⟩ := List.mem_map.mp this
    obtain ⟨x, hx, rfl⟩ := List.mem_map.mp hd
    simp at hj
/-- what a keeper of a kind says of the parts behind a wish -/
noncomputable def letsB (k : Int) (c h : Int) (dl : List Deed) : Bool :=
  if k < 3 then (loads h dl).all fun l => decide (l + k ≤ c)
  else if k = 3 then decide (used0 h dl ≤ c)
  else if k = 4 then decide (used0 h dl + (dl.map (·.need)).sum ≤ c)
  else if k = 5 then fineB c h (bare dl)
  else decide (k = 6)
end K06
/-! D8: the law's parts behind a wish. -/
namespace K06
open PySem PySem.Spec L2
variable {P : Program} {w : World} {K : PySem.W.Frag} {mg : Str → Option Value} {base : Heap} {CS : Addr} {X : Cx}
inductive R_L_numbered : List D → D → Prop
  | mk {dl : List Deed} {ord : List Nat} : ord.Nodup → (∀ i ∈ ord, i < dl.length) → (∀ x ∈ dl, ∀ j ∈ x.waits, j ∈ ord) → (∀ x ∈ dl, x.waits.length ≤ 40) → ord.length ≤ 40 → R_L_numbered [.lst (encDs dl), .lst (natsD ord)] (.tup (encDs (numb dl ord)))
theorem b_L_numbered (C : Ctx X (defScope s_L_numbered) N_L_numbered V_L_numbered V_L_numbered G_L_numbered) (hr : Room 0 X.A) {ds : List D} {r : D} (hR : R_L_numbered ds r) :
    XSs X CS (defBody s_L_numbered) (startD N_L_numbered (ds.map Slot.im)) (Pr r) := by
  cases hR with
  | @mk dl ord nd hlt hw hwl hol =>
    refine xss_setL C 2 rfl rfl (xe_lst (ds := []) xa_nil (le_of rfl) rfl) rfl (fun lf => ?_) (lt_of rfl)
    refine xss_for C (xi_l (xe_v C 1 rfl rfl rfl) rfl) (fun i δ => ∃ x3 x4 x5 x6, δ = [some (.im (.lst (encDs dl))), some (.im (.lst (natsD ord))), some (.ml lf (encDs ((numb dl ord).take i))), x3, x4, x5, x6, none]) _ ⟨none, none, none, none, rfl⟩ (fun i d δ hd hI => ?_) (fun δ h => h) (fun δ hI => ?_)
    · obtain ⟨x4, x5, x6, x7, rfl⟩ := hI
      obtain ⟨n, hn, rfl⟩ := natsD_of hd
      have hnl := hlt n (List.mem_of_getElem? hn)
      have hil : i < ord.length := (List.getElem?_eq_some_iff.mp hn).1
      have hmd := mem_dl hnl
      refine ⟨_, _, (xg_n C 3 rfl rfl (lt_of rfl)), ?_⟩
      refine xss_asg (xe_ixL (xe_v C 0 rfl rfl rfl) (xe_v C 3 rfl rfl rfl) rfl (atI_nat (encDs_get (getD_some hnl)))) (xg_t C (xgs_cons (xg_n C 4 rfl rfl (lt_of rfl)) (xgs_cons (xg_n C 5 rfl rfl (lt_of rfl)) (xgs_cons (xg_n C 6 rfl rfl (lt_of rfl)) xgs_nil))) rfl) ?_
      have hlc : (List.range (natsD (dl.getD n dflt).waits).length).filterMap (fun m => some (K06.D.int ((ord.idxOf ((dl.getD n dflt).waits.getD m 0) : Nat) : Int))) = natsD ((dl.getD n dflt).waits.map fun j => ord.idxOf j) := by
        rw [natsD_len, fm_some]
        unfold natsD
        rw [List.map_map, List.map_map]
        refine range_get _ _ _ fun m x hx => ?_
        rw [List.getD_eq_getElem?_getD, hx]
        rfl
      refine xss_app C 2 rfl rfl rfl (xe_tup (ds := [_, _, _]) (xa_cons (xe_v C 4 rfl rfl rfl) (xa_cons (xe_v C 5 rfl rfl rfl) (xa_cons (xe_tuple C 0 rfl (xe_sorted C 1 rfl (xe_lcP (own := [("_law_other", 7)]) (fun m => some (K06.D.int ((ord.idxOf ((dl.getD n dflt).waits.getD m 0) : Nat) : Int))) C [1, 7] [7] [] (xi_t (xe_v C 6 rfl rfl rfl) rfl) (by decide +kernel) (by decide +kernel) (LFs_nats _) (by rw [natsD_len]; have := hwl _ hmd; omega) (fun m d hd => ?_) hlc) rfl ((sortN_perm _).map _) (cast_up2 (sortN_up _))) rfl) xa_nil))) (le_of rfl)) rfl ?_ ?_ ?_
      · obtain ⟨j, hj, rfl⟩ := natsD_of hd
        have hjo := hw _ hmd j (List.mem_of_getElem? hj)
        have eg : (dl.getD n dflt).waits.getD m 0 = j := by rw [List.getD_eq_getElem?_getD, hj]; rfl
        obtain ⟨i1, i2⟩ := idxOf_first hjo
        refine ⟨_, _, true, rfl, fun Y hB D => (xg_n D 7 rfl rfl (lt_of rfl)), fun Y hB D => (xts_one (xt_t (xt_in (xe_v D 7 rfl rfl rfl) (xe_v D 1 rfl rfl rfl) (.inl rfl)) (decide_eq_true (int_mem.mpr hjo)))), fun _ => ⟨_, rfl, fun Y hB D => xe_to (xe_index (ns := ord.map fun i => ((i : Nat) : Int)) (m := ord.idxOf j) (xe_v D 1 rfl rfl rfl) (fun A B σ H H0 v s t q => let ⟨a, vs, e, n, h, _⟩ := q; ⟨a, vs, e, h⟩) (xe_v D 7 rfl rfl rfl) rfl (by rw [List.getElem?_map, i1]; rfl) (fun m' hm' z => ?_)) (by rw [eg]), rfl⟩, (by intro z; cases z), rfl⟩
        rw [List.getElem?_map] at z
        cases q : ord[m']? with
        | none => rw [q] at z; cases z
        | some y =>
          rw [q] at z
          have hz : ((y : Nat) : Int) = j := Option.some.inj z
          exact i2 m' hm' (by rw [q]; congr 1; omega)
      · exact lf_enc ⟨(dl.getD n dflt).first, (dl.getD n dflt).need, sortN ((dl.getD n dflt).waits.map fun j => ord.idxOf j)⟩
      · have : (encDs ((numb dl ord).take i)).length ≤ i := by
          rw [encDs_len]
          exact List.length_take_le _ _
        omega
      · have E : encDs ((numb dl ord).take i) ++ [K06.D.tup [optD (dl.getD n dflt).first, .int (dl.getD n dflt).need, .tup (natsD (sortN ((dl.getD n dflt).waits.map fun j => ord.idxOf j)))]] = encDs ((numb dl ord).take (i + 1)) := by
          have : (numb dl ord)[i]? = some ⟨(dl.getD n dflt).first, (dl.getD n dflt).need, sortN ((dl.getD n dflt).waits.map fun j => ord.idxOf j)⟩ := by
            unfold numb
            rw [List.getElem?_map, hn]
            rfl
          rw [List.take_add_one, this]
          simp [encDs, Deed.enc]
        rw [E]
        exact xss_nil ⟨_, _, _, _, rfl⟩
    · obtain ⟨x4, x5, x6, x7, rfl⟩ := hI
      have e : (numb dl ord).take (natsD ord).length = numb dl ord := by
        rw [natsD_len]
        exact List.take_of_length_le (by simp [numb])
      rw [e]
      exact xss_ret (xe_tuple C 0 rfl (xe_m C 2 rfl rfl rfl rfl) ⟨2, rfl⟩) rfl (lf_encs _)
theorem c_L_numbered (D : Df K mg "_law_numbered" s_L_numbered) (hg : Glb mg) : CalP P w K mg base 1 "_law_numbered" (spD CS R_L_numbered) :=
  mkD D hg sc_L_numbered ok_L_numbered (by intro _ _ h; cases h <;> rfl) (fun X hX C hr ds r hR => b_L_numbered C hr hR) (fun f fd F => F.binds fun _ _ _ _ _ _ us hl => match us, hl with | [_, _], _ => rfl)
inductive R_L_aged : List D → D → Prop
  | mk {dl : List Deed} {bs : List Nat} : dl.length ≤ 40 → bs.Perm ((List.range dl.length).filter (beg dl)) → (bs.Pairwise fun i j => ∃ x y, (dl.getD i dflt).first = some x ∧ (dl.getD j dflt).first = some y ∧ x < y) → R_L_aged [.lst (encDs dl)] (.lst (natsD (bs ++ (List.range dl.length).filter (fun i => !beg dl i))))
/-- the pair of a begun one -/
def keyP (dl : List Deed) (i : Nat) : Int × Int := ((dl.getD i dflt).first.getD 0, ((i : Nat) : Int))
theorem range_at {n m x : Nat} (h : (List.range n)[m]? = some x) : m < n ∧ x = m := by
  have h1 := (List.getElem?_eq_some_iff.mp h).1
  rw [List.length_range] at h1
  rw [List.getElem?_range h1] at h
  exact ⟨h1, (Option.some.inj h).symm⟩
theorem filter_fm {α β : Type} (p : α → Bool) (f : α → β) (l : List α) : l.filterMap (fun x => if p x = true then some (f x) else none) = (l.filter p).map f := by
  induction l with
  | nil => rfl
  | cons a l ih =>
    by_cases q : p a = true
    · rw [List.filter_cons_of_pos q, List.map_cons, ← ih]
      simp [q]
    · rw [List.filter_cons_of_neg q, ← ih]
      simp [q]
theorem b_L_aged (C : Ctx X (defScope s_L_aged) N_L_aged V_L_aged V_L_aged G_L_aged) (hr : Room 0 X.A) {ds : List D} {r : D} (hR : R_L_aged ds r) :
    XSs X CS (defBody s_L_aged) (startD N_L_aged (ds.map Slot.im)) (Pr r) := by
  cases hR with
  | @mk dl bs hn hp hup =>
    have hbl : bs.length ≤ 40 := by
      have := List.length_filter_le (beg dl) (List.range dl.length)
      rw [List.length_range] at this
      rw [hp.length_eq]
      omega
    have hrl : (natsD (List.range dl.length)).length ≤ 1000 := by rw [natsD_len, List.length_range]; omega
    have hnl : ((List.range dl.length).filter (fun i => !beg dl i)).length ≤ 40 := by
      have := List.length_filter_le (fun i => !beg dl i) (List.range dl.length)
      rw [List.length_range] at this
      omega
    have hbg : ∀ m, (!(optD (dl.getD m dflt).first).isNon) = beg dl m := fun m => by
      unfold beg
      cases (dl.getD m dflt).first <;> rfl
    refine xss_set C 1 rfl rfl (xn (xe_sortedP (ps := ((List.range dl.length).filter (beg dl)).map (keyP dl)) (qs := bs.map (keyP dl)) C 0 rfl (xe_lcP (own := [("_law_deed", 2)]) (fun m => if beg dl m = true then some (pairD (keyP dl m)) else none) C [0, 2] [2] [] (xi_r (n := dl.length) C 1 rfl (xe_i (xe_len C 2 rfl (xe_v C 0 rfl rfl rfl) (.inl rfl)) (by rw [encDs_len])) (by omega)) (by decide +kernel) (by decide +kernel) (LFs_nats _) hrl (fun m d hd => ?_) ?_) rfl (hp.map _) ?_)) ?_ (lt_of rfl)
    · obtain ⟨x, hx, rfl⟩ := natsD_of hd
      obtain ⟨hm, rfl⟩ := range_at hx
      have hix : L2.atI (encDs dl) ((x : Nat) : Int) = some (dl.getD x dflt).enc := atI_nat (encDs_get (getD_some hm))
      refine ⟨_, _, beg dl x, rfl, fun Y hB D => (xg_n D 2 rfl rfl (lt_of rfl)), fun Y hB D => (xts_one (xt_b (xt_notN (xe_ixT (xe_ixL (xe_v D 0 rfl rfl rfl) (xe_v D 2 rfl rfl rfl) rfl hix) xe_int rfl rfl)) (hbg x))), fun hb => ⟨_, if_pos hb, fun Y hB D => (xe_tup (ds := [.int (keyP dl x).1, .int (keyP dl x).2]) (xa_cons (xe_to (xe_ixT (xe_ixL (xe_v D 0 rfl rfl rfl) (xe_v D 2 rfl rfl rfl) rfl hix) xe_int rfl rfl) ?_) (xa_cons (xe_v D 2 rfl rfl rfl) xa_nil)) (le_of rfl)), rfl⟩, fun hb => if_neg (by rw [hb]; simp), rfl⟩
      unfold beg at hb
      unfold keyP
      cases q : (dl.getD x dflt).first with
      | none => rw [q] at hb; cases hb
      | some f => rfl
    · rw [natsD_len, List.length_range, filter_fm, List.map_map]
      rfl
    · rw [List.pairwise_map]
      exact hup.imp fun ⟨x, y, e1, e2, e3⟩ => .inl (by unfold keyP; rw [e1, e2]; exact e3)
    have E : natsD bs ++ natsD ((List.range dl.length).filter (fun i => !beg dl i)) = natsD (bs ++ (List.range dl.length).filter (fun i => !beg dl i)) := (natsD_app _ _).symm
    refine xss_retn (xn_to (xe_cat (ds := natsD bs) (es' := natsD ((List.range dl.length).filter (fun i => !beg dl i))) (xe_lcP (own := [("_law_first", 3), ("_law_deed", 2)]) (fun m => some (.int ((bs.getD m 0 : Nat) : Int))) C [2, 3] [3, 2] [] (xi_l (xe_v C 1 rfl rfl rfl) rfl) (by decide +kernel) (by decide +kernel) (lf_pairs _) (by rw [List.length_map, List.length_map]; omega) (fun m d hd => ?_) ?_) (xe_lcP (own := [("_law_deed", 2)]) (fun m => if (!beg dl m) = true then some (.int ((m : Nat) : Int)) else none) C [0, 2] [2] [] (xi_r (n := dl.length) C 1 rfl (xe_i (xe_len C 2 rfl (xe_v C 0 rfl rfl rfl) (.inl rfl)) (by rw [encDs_len])) (by omega)) (by decide +kernel) (by decide +kernel) (LFs_nats _) hrl (fun m d hd => ?_) ?_) rfl rfl (by rw [natsD_len, natsD_len]; omega) (by rw [E]; exact LFs_nats _)) (by rw [E])) rfl
    · rw [List.getElem?_map, List.getElem?_map] at hd
      cases q : bs[m]? with
      | none => rw [q] at hd; cases hd
      | some x =>
        rw [q] at hd
        have : d = pairD (keyP dl x) := (Option.some.inj hd).symm
        subst this
        have eg : bs.getD m 0 = x := by rw [List.getD_eq_getElem?_getD, q]; rfl
        exact ⟨_, _, true, rfl, fun Y hB D => (xg_t D (xgs_cons (xg_n D 3 rfl rfl (lt_of rfl)) (xgs_cons (xg_n D 2 rfl rfl (lt_of rfl)) xgs_nil)) rfl), fun Y hB D => xts_nil, fun _ => ⟨_, rfl, fun Y hB D => xe_to (xe_v D 2 rfl rfl rfl) (by rw [eg]; rfl), rfl⟩, (by intro z; cases z), rfl⟩
    · rw [List.length_map, List.length_map, fm_some]
      unfold natsD
      rw [List.map_map]
      exact range_get _ _ _ fun m x hx => by rw [List.getD_eq_getElem?_getD, hx]; rfl
    · obtain ⟨x, hx, rfl⟩ := natsD_of hd
      obtain ⟨hm, rfl⟩ := range_at hx
      have hix : L2.atI (encDs dl) ((x : Nat) : Int) = some (dl.getD x dflt).enc := atI_nat (encDs_get (getD_some hm))
      exact ⟨_, _, !beg dl x, rfl, fun Y hB D => (xg_n D 2 rfl rfl (lt_of rfl)), fun Y hB D => (xts_one (xt_b (xt_isN (xe_ixT (xe_ixL (xe_v D 0 rfl rfl rfl) (xe_v D 2 rfl rfl rfl) rfl hix) xe_int rfl rfl)) (by rw [← hbg x, Bool.not_not]))), fun hb => ⟨_, if_pos hb, fun Y hB D => (xe_v D 2 rfl rfl rfl), rfl⟩, fun hb => if_neg (by rw [hb]; simp), rfl⟩
    · rw [natsD_len, List.length_range]
      unfold natsD
      rw [List.map_map]
      exact filter_fm (fun m => !beg dl m) (fun m => K06.D.int ((m : Nat) : Int)) _
theorem c_L_aged (D : Df K mg "_law_aged" s_L_aged) (hg : Glb mg) : CalP P w K mg base 1 "_law_aged" (spD CS R_L_aged) :=
  mkD D hg sc_L_aged ok_L_aged (by intro _ _ h; cases h <;> rfl) (fun X hX C hr ds r hR => b_L_aged C hr hR) (fun f fd F => F.binds fun _ _ _ _ _ _ us hl => match us, hl with | [_], _ => rfl)
/-- the parts of a standing -/
def prt (c h : Int) (dl : List Deed) : D := .tup [.int c, .int h, .tup (encDs dl)]
theorem lf_prt (c h : Int) (dl : List Deed) : LF (prt c h dl) = true := by
  have h1 : LFs (encDs dl) = true := lf_encs dl
  simp only [prt, LF, LFs, h1, Bool.and_true]
inductive R_L_behind : List D → D → Prop
  | mk {b c h : Int} {dl : List Deed} {w : Wish} : Ok b h dl → OkW b dl w → R_L_behind [prt c h dl, w.enc] (prt c (h + more w) (bh h dl w))
theorem num_of {b h : Int} {dl : List Deed} {w : Wish} (o : Ok b h dl) (k : OkW b dl w) : R_L_numbered [.lst (encDs (chg h dl w)), .lst (natsD (ordr dl w))] (.tup (encDs (bh h dl w))) := by
  have z := bh0 o k
  have nd : (ordr dl w).Nodup := z.perm.nodup_iff.mpr List.nodup_range
  have hmem : ∀ x, x ∈ ordr dl w ↔ x < (chg h dl w).length := fun x => by rw [z.perm.mem_iff, List.mem_range]
  have hl := z.len
  have hlen : (ordr dl w).length = (chg h dl w).length := by rw [z.perm.length_eq, List.length_range]
  refine .mk nd (fun i hi => (hmem i).mp hi) (fun x hx j hj => ?_) (fun x hx => ?_) (by omega)
  · obtain ⟨i, hi⟩ := List.mem_iff_getElem?.mp hx
    exact (hmem j).mpr ((z.wt i x hi).2 j hj)
  · obtain ⟨i, hi⟩ := List.mem_iff_getElem?.mp hx
    have := nodup_len (z.wt i x hi).1 (z.wt i x hi).2
    omega
theorem age_of {b h : Int} {dl : List Deed} {w : Wish} (o : Ok b h dl) (k : OkW b dl w) : R_L_aged [.lst (encDs (chg h dl w))] (.lst (natsD (ordr dl w))) := by
  obtain ⟨bs, h1, h2, h3⟩ := aged_ok o k
  have hl := (bh0 o k).len
  rw [← h3]
  exact .mk (by omega) h1 h2
theorem b_L_behind (C : Ctx X (defScope s_L_behind) N_L_behind V_L_behind V_L_behind G_L_behind) (hr : Room 1 X.A) (c_L_numbered : CalX X 1 "_law_numbered" (spD CS R_L_numbered)) (c_L_aged : CalX X 1 "_law_aged" (spD CS R_L_aged)) {ds : List D} {r : D} (hR : R_L_behind ds r) :
    XSs X CS (defBody s_L_behind) (startD N_L_behind (ds.map Slot.im)) (Pr r) := by
  cases hR with
  | @mk b c h dl w o ok =>
    have hlen := o.len
    refine xss_asg (xe_v C 0 rfl rfl rfl) (xg_t C (xgs_cons (xg_n C 2 rfl rfl (lt_of rfl)) (xgs_cons (xg_n C 3 rfl rfl (lt_of rfl)) (xgs_cons (xg_n C 4 rfl rfl (lt_of rfl)) xgs_nil))) rfl) ?_
    refine xss_setL C 5 rfl rfl (xe_list C 0 rfl (xe_v C 4 rfl rfl rfl) (.inr rfl) (lf_encs dl)) (lf_encs dl) (fun ls => ?_) (lt_of rfl)
    refine xss_set C 6 rfl rfl xe_int ?_ (lt_of rfl)
    cases w with
    | row d k n =>
      have hd : d < dl.length := by cases ok; assumption
      refine xss_if (Mid := fun δ => ∃ x7 x8 x9, δ = [some (.im (prt c h dl)), some (.im (Wish.enc (.row d k n))), some (.im (.int c)), some (.im (.int h)), some (.im (.tup (encDs dl))), some (.ml ls (encDs (chg h dl (.row d k n)))), some (.im (.int (more (.row d k n)))), x7, x8, x9]) (xt_t (xt_eq (xe_ixT (xe_v C 1 rfl rfl rfl) xe_int rfl rfl) xe_str opd_eqS) (decide_eq_true rfl)) (fun _ => ?_) (by intro z; cases z) (fun δ ⟨x7, x8, x9, e⟩ => by
        subst e
        exact xss_ret (x := prt c (h + more (.row d k n)) (bh h dl (.row d k n))) (xe_tup (ds := [.int c, .int (h + more (.row d k n)), .tup (encDs (bh h dl (.row d k n)))]) (xa_cons (xe_v C 2 rfl rfl rfl) (xa_cons (xe_add (xe_v C 3 rfl rfl rfl) (xe_v C 6 rfl rfl rfl)) (xa_cons (xn (xe_call c_L_numbered hr (by decide) C 3 rfl (xa_cons (xe_m C 5 rfl rfl rfl rfl) (xa_cons (xn (xe_call c_L_aged hr (by decide) C 4 rfl (xa_cons (xe_m C 5 rfl rfl rfl rfl) xa_nil) (ds := [.lst (encDs (chg h dl (.row d k n)))]) ⟨_, _, rfl, ⟨5, _, rfl, rfl⟩, rfl⟩ (age_of o ok))) xa_nil)) (ds := [.lst (encDs (chg h dl (.row d k n))), .lst (natsD (ordr dl (.row d k n)))]) ⟨_, _, rfl, ⟨5, _, rfl, rfl⟩, _, _, rfl, rfl, rfl⟩ (num_of o ok))) xa_nil))) (le_of rfl)) rfl (lf_prt _ _ _))
      refine xss_asg (xe_ixL (xe_m C 5 rfl rfl rfl rfl) (xe_ixT (xe_v C 1 rfl rfl rfl) xe_int rfl rfl) ⟨5, rfl⟩ (atI_nat (encDs_get (getD_some hd)))) (xg_t C (xgs_cons (xg_n C 7 rfl rfl (lt_of rfl)) (xgs_cons (xg_n C 8 rfl rfl (lt_of rfl)) (xgs_cons (xg_n C 9 rfl rfl (lt_of rfl)) xgs_nil))) rfl) ?_
      refine xss_setI C 5 rfl rfl (xe_tup (ds := [optD (some ((dl.getD d dflt).first.getD h)), .int n, .tup (natsD (dl.getD d dflt).waits)]) (xa_cons (xe_if (p := (dl.getD d dflt).first.isNone) (xt_b (xt_isN (xe_v C 7 rfl rfl rfl)) (isNon_optD _)) (fun hb => xe_to (xe_v C 3 rfl rfl rfl) (by cases q : (dl.getD d dflt).first with | none => rfl | some f => rw [q] at hb; cases hb)) (fun hb => xe_to (xe_v C 7 rfl rfl rfl) (by cases q : (dl.getD d dflt).first with | none => rw [q] at hb; cases hb | some f => rfl))) (xa_cons (xe_ixT (xe_v C 1 rfl rfl rfl) xe_int rfl rfl) (xa_cons (xe_v C 9 rfl rfl rfl) xa_nil))) (le_of rfl)) rfl (xe_ixT (xe_v C 1 rfl rfl rfl) xe_int rfl rfl) (ixN_nat (by rw [encDs_len]; exact hd)) (lf_enc ⟨some ((dl.getD d dflt).first.getD h), n, (dl.getD d dflt).waits⟩) ?_
      have E2 : (encDs dl).set d (K06.D.tup [optD (some ((dl.getD d dflt).first.getD h)), .int n, .tup (natsD (dl.getD d dflt).waits)]) = encDs (chg h dl (.row d k n)) := encDs_set dl d ⟨some ((dl.getD d dflt).first.getD h), n, (dl.getD d dflt).waits⟩
      rw [E2]
      exact xss_set C 6 rfl rfl (xe_ixT (xe_v C 1 rfl rfl rfl) xe_int rfl rfl) (xss_nil ⟨_, _, _, rfl⟩) (lt_of rfl)
    | opn k n ws =>
      refine xss_if (Mid := fun δ => ∃ x7 x8 x9, δ = [some (.im (prt c h dl)), some (.im (Wish.enc (.opn k n ws))), some (.im (.int c)), some (.im (.int h)), some (.im (.tup (encDs dl))), some (.ml ls (encDs (chg h dl (.opn k n ws)))), some (.im (.int (more (.opn k n ws)))), x7, x8, x9]) (xt_f (xt_eq (xe_ixT (xe_v C 1 rfl rfl rfl) xe_int rfl rfl) xe_str opd_eqS) (decide_eq_false (by decide +kernel))) (by intro z; cases z) (fun _ => ?_) (fun δ ⟨x7, x8, x9, e⟩ => by
        subst e
        exact xss_ret (x := prt c (h + more (.opn k n ws)) (bh h dl (.opn k n ws))) (xe_tup (ds := [.int c, .int (h + more (.opn k n ws)), .tup (encDs (bh h dl (.opn k n ws)))]) (xa_cons (xe_v C 2 rfl rfl rfl) (xa_cons (xe_add (xe_v C 3 rfl rfl rfl) (xe_v C 6 rfl rfl rfl)) (xa_cons (xn (xe_call c_L_numbered hr (by decide) C 3 rfl (xa_cons (xe_m C 5 rfl rfl rfl rfl) (xa_cons (xn (xe_call c_L_aged hr (by decide) C 4 rfl (xa_cons (xe_m C 5 rfl rfl rfl rfl) xa_nil) (ds := [.lst (encDs (chg h dl (.opn k n ws)))]) ⟨_, _, rfl, ⟨5, _, rfl, rfl⟩, rfl⟩ (age_of o ok))) xa_nil)) (ds := [.lst (encDs (chg h dl (.opn k n ws))), .lst (natsD (ordr dl (.opn k n ws)))]) ⟨_, _, rfl, ⟨5, _, rfl, rfl⟩, _, _, rfl, rfl, rfl⟩ (num_of o ok))) xa_nil))) (le_of rfl)) rfl (lf_prt _ _ _))
      refine xss_if (Mid := fun δ => ∃ x7 x8 x9, δ = [some (.im (prt c h dl)), some (.im (Wish.enc (.opn k n ws))), some (.im (.int c)), some (.im (.int h)), some (.im (.tup (encDs dl))), some (.ml ls (encDs (chg h dl (.opn k n ws)))), some (.im (.int (more (.opn k n ws)))), x7, x8, x9]) (xt_t (xt_eq (xe_ixT (xe_v C 1 rfl rfl rfl) xe_int rfl rfl) xe_str opd_eqS) (decide_eq_true rfl)) (fun _ => ?_) (by intro z; cases z) (fun δ z => xss_nil z)
      refine xss_app C 5 rfl rfl rfl (xe_tup (ds := [optD (if 0 < k then some h else none), .int n, .tup (natsD ws)]) (xa_cons (xe_if (xt_gt (xe_ixT (xe_v C 1 rfl rfl rfl) xe_int rfl rfl) xe_int) (fun hb => xe_to (xe_v C 3 rfl rfl rfl) (by rw [if_pos (of_decide_eq_true hb)]; rfl)) (fun hb => xe_to xe_non (by rw [if_neg (of_decide_eq_false hb)]; rfl))) (xa_cons (xe_ixT (xe_v C 1 rfl rfl rfl) xe_int rfl rfl) (xa_cons (xe_ixT (xe_v C 1 rfl rfl rfl) xe_int rfl rfl) xa_nil))) (le_of rfl)) rfl (lf_enc ⟨if 0 < k then some h else none, n, ws⟩) (by rw [encDs_len]; omega) ?_
      have ec : encDs dl ++ [K06.D.tup [optD (if 0 < k then some h else none), .int n, .tup (natsD ws)]] = encDs (chg h dl (.opn k n ws)) := by simp [encDs, chg, Deed.enc]
      rw [ec]
      exact xss_set C 6 rfl rfl (xe_ixT (xe_v C 1 rfl rfl rfl) xe_int rfl rfl) (xss_nil ⟨_, _, _, rfl⟩) (lt_of rfl)
    | wait d p =>
      have hd : d < dl.length := by cases ok; assumption
      have hwl : (dl.getD d dflt).waits.length ≤ 30 := Nat.le_trans (nodup_len (up_nodup (o.wt d _ (getD_some hd)).up) (o.wt d _ (getD_some hd)).lt) hlen
      have e1 : natsD (dl.getD d dflt).waits ++ [K06.D.int (p : Nat)] = natsD ((dl.getD d dflt).waits ++ [p]) := by simp [natsD]
      refine xss_if (Mid := fun δ => ∃ x7 x8 x9, δ = [some (.im (prt c h dl)), some (.im (Wish.enc (.wait d p))), some (.im (.int c)), some (.im (.int h)), some (.im (.tup (encDs dl))), some (.ml ls (encDs (chg h dl (.wait d p)))), some (.im (.int (more (.wait d p)))), x7, x8, x9]) (xt_f (xt_eq (xe_ixT (xe_v C 1 rfl rfl rfl) xe_int rfl rfl) xe_str opd_eqS) (decide_eq_false (by decide +kernel))) (by intro z; cases z) (fun _ => ?_) (fun δ ⟨x7, x8, x9, e⟩ => by
        subst e
        exact xss_ret (x := prt c (h + more (.wait d p)) (bh h dl (.wait d p))) (xe_tup (ds := [.int c, .int (h + more (.wait d p)), .tup (encDs (bh h dl (.wait d p)))]) (xa_cons (xe_v C 2 rfl rfl rfl) (xa_cons (xe_add (xe_v C 3 rfl rfl rfl) (xe_v C 6 rfl rfl rfl)) (xa_cons (xn (xe_call c_L_numbered hr (by decide) C 3 rfl (xa_cons (xe_m C 5 rfl rfl rfl rfl) (xa_cons (xn (xe_call c_L_aged hr (by decide) C 4 rfl (xa_cons (xe_m C 5 rfl rfl rfl rfl) xa_nil) (ds := [.lst (encDs (chg h dl (.wait d p)))]) ⟨_, _, rfl, ⟨5, _, rfl, rfl⟩, rfl⟩ (age_of o ok))) xa_nil)) (ds := [.lst (encDs (chg h dl (.wait d p))), .lst (natsD (ordr dl (.wait d p)))]) ⟨_, _, rfl, ⟨5, _, rfl, rfl⟩, _, _, rfl, rfl, rfl⟩ (num_of o ok))) xa_nil))) (le_of rfl)) rfl (lf_prt _ _ _))
      refine xss_if (Mid := fun δ => ∃ x7 x8 x9, δ = [some (.im (prt c h dl)), some (.im (Wish.enc (.wait d p))), some (.im (.int c)), some (.im (.int h)), some (.im (.tup (encDs dl))), some (.ml ls (encDs (chg h dl (.wait d p)))), some (.im (.int (more (.wait d p)))), x7, x8, x9]) (xt_f (xt_eq (xe_ixT (xe_v C 1 rfl rfl rfl) xe_int rfl rfl) xe_str opd_eqS) (decide_eq_false (by decide +kernel))) (by intro z; cases z) (fun _ => ?_) (fun δ z => xss_nil z)
      refine xss_asg (xe_ixL (xe_m C 5 rfl rfl rfl rfl) (xe_ixT (xe_v C 1 rfl rfl rfl) xe_int rfl rfl) ⟨5, rfl⟩ (atI_nat (encDs_get (getD_some hd)))) (xg_t C (xgs_cons (xg_n C 7 rfl rfl (lt_of rfl)) (xgs_cons (xg_n C 8 rfl rfl (lt_of rfl)) (xgs_cons (xg_n C 9 rfl rfl (lt_of rfl)) xgs_nil))) rfl) ?_
      refine xss_setI C 5 rfl rfl (xe_tup (ds := [_, _, _]) (xa_cons (xe_v C 7 rfl rfl rfl) (xa_cons (xe_v C 8 rfl rfl rfl) (xa_cons (xe_tuple C 1 rfl (xe_sortedT (ns := ((dl.getD d dflt).waits ++ [p]).map fun i => ((i : Nat) : Int)) C 2 rfl (xe_to (y := .tup (natsD ((dl.getD d dflt).waits ++ [p]))) (xe_catT (xe_v C 9 rfl rfl rfl) (xe_tup (ds := [_]) (xa_cons (xe_ixT (xe_v C 1 rfl rfl rfl) xe_int rfl rfl) xa_nil) (le_of rfl)) rfl rfl (by rw [natsD_len, List.length_singleton]; omega)) (by rw [e1])) rfl (by rw [List.length_map, List.length_append, List.length_singleton]; omega) ((sortN_perm _).map _) (cast_up2 (sortN_up _))) rfl) xa_nil))) (le_of rfl)) rfl (xe_ixT (xe_v C 1 rfl rfl rfl) xe_int rfl rfl) (ixN_nat (by rw [encDs_len]; exact hd)) (lf_enc ⟨(dl.getD d dflt).first, (dl.getD d dflt).need, sortN ((dl.getD d dflt).waits ++ [p])⟩) ?_
      have E2 : (encDs dl).set d (K06.D.tup [optD (dl.getD d dflt).first, .int (dl.getD d dflt).need, .tup (natsD (sortN ((dl.getD d dflt).waits ++ [p])))]) = encDs (chg h dl (.wait d p)) := encDs_set dl d ⟨(dl.getD d dflt).first, (dl.getD d dflt).need, sortN ((dl.getD d dflt).waits ++ [p])⟩
      rw [E2]
      exact xss_nil ⟨_, _, _, rfl⟩
theorem c_L_behind (D : Df K mg "_law_behind" s_L_behind) (hg : Glb mg) (c_L_numbered : CalP P w K mg base 1 "_law_numbered" (spD CS R_L_numbered)) (c_L_aged : CalP P w K mg base 1 "_law_aged" (spD CS R_L_aged)) : CalP P w K mg base 2 "_law_behind" (spD CS R_L_behind) :=
  mkD D hg sc_L_behind ok_L_behind (by intro _ _ h; cases h <;> rfl) (fun X hX C hr ds r hR => b_L_behind C hr (hX.cal c_L_numbered) (hX.cal c_L_aged) hR) (fun f fd F => F.binds fun _ _ _ _ _ _ us hl => match us, hl with | [_, _], _ => rfl)
end K06
/-! D9: drawing. -/
namespace K06
open PySem PySem.Spec L2
variable {P : Program} {w : World} {K : PySem.W.Frag} {mg : Str → Option Value} {base : Heap} {CS : Addr} {X : Cx}
section
variable {a b : Expr} {p q : Bool} {δ δ1 δ2 : Sto} {pos : Pos}
theorem xw_and2 (ha : XT X CS a δ p δ) (hb : p = true → XT X CS b δ q δ) : XW X CS (.BoolOp .And [a, b] pos) δ (p && q) δ := by
  cases p with
  | true => exact xw_and ha (fun _ => xw_and1 (hb rfl)) (by intro z; cases z)
  | false => exact xw_and (q := false) ha (by intro z; cases z) (fun _ => ⟨rfl, rfl⟩)
theorem xw_or2 (ha : XT X CS a δ p δ) (hb : p = false → XT X CS b δ q δ) : XW X CS (.BoolOp .Or [a, b] pos) δ (p || q) δ := by
  cases p with
  | false => exact xw_or ha (fun _ => xw_or1 (hb rfl)) (by intro z; cases z)
  | true => exact xw_or (q := true) ha (by intro z; cases z) (fun _ => ⟨rfl, rfl⟩)
end
/-- a cell is read -/
def feed (g : Hand) : Hand := if g.cur = 0 ∧ g.at_ < g.cells.length then { g with at_ := g.at_ + 1, seed := (g.seed * 69621 + g.cells.getD g.at_.toNat 0 + 11) % 2147483629, cur := if 10 ^ 18 ≤ g.cells.getD g.at_.toNat 0 then g.cells.getD g.at_.toNat 0 else g.cur } else g
def rnd (s c : Int) : Int := ((s + 7919 * c) * 48271) % 2147483647
def rnd2 (n : Int) : Int := (n * (n / 1009 + 69621)) % 2147483647
def rnd3 (n : Int) : Int := (n * (n / 2003 + 40692)) % 2147483399
def drawF (g : Hand) (m : Int) : Int × Hand :=
  if 0 < (feed g).cur then ((feed g).cur % m, { feed g with cur := (feed g).cur / m })
  else ((rnd3 (rnd2 (rnd (feed g).seed ((feed g).cnt + 1))) / 16) % m, { feed g with cnt := (feed g).cnt + 1 })
def HOk' (g : Hand) : Prop := 0 ≤ g.at_
theorem feed_cells (g : Hand) : (feed g).cells = g.cells := by
  unfold feed
  split <;> rfl
theorem feed_ok {g : Hand} (h : HOk' g) : HOk' (feed g) := by
  unfold feed HOk' at *
  split
  · show 0 ≤ g.at_ + 1
    omega
  · exact h
theorem drawF_cells (g : Hand) (m : Int) : (drawF g m).2.cells = g.cells := by
  unfold drawF
  split <;> exact feed_cells g
theorem drawF_ok {g : Hand} (m : Int) (h : HOk' g) : HOk' (drawF g m).2 := by
  unfold drawF
  split <;> exact feed_ok h
theorem drawF_lt (g : Hand) {m : Int} (h : 0 < m) : 0 ≤ (drawF g m).1 ∧ (drawF g m).1 < m := by
  unfold drawF
  split <;> exact ⟨Int.emod_nonneg _ (by omega), Int.emod_lt_of_pos _ h⟩
inductive R_L_draw : Hand → List D → D → Hand → Prop
  | mk {g : Hand} {m : Int} : HOk' g → 0 < m → m < 1073741824 → R_L_draw g [.int m] (.int (drawF g m).1) (drawF g m).2
theorem b_L_draw (C : Ctx X (defScope s_L_draw) N_L_draw V_L_draw V_L_draw G_L_draw) (hr : Room 0 X.A) {p c : Addr} {g g' : Hand} {ds : List D} {r : D} (hR : R_L_draw g ds r g') (hc : g'.cells = g.cells) :
    XSs X CS (defBody s_L_draw) (startD N_L_draw (.hd p c g :: ds.map Slot.im)) { nx := fun _ => False, rt := fun δ d => d = r ∧ δ[0]? = some (some (.hd p c g')) } := by
  have mulR : ∀ i : Int, CMul i 69621 := fun i => .inr ⟨by decide, by decide⟩
  cases hR with
  | @mk m hok h0 h1 =>
    refine xss_if (Mid := fun δ => ∃ x2, δ = [some (.hd p c (feed g)), some (.im (.int m)), x2, none, none]) (xw (xw_and2 (xt_eq (xe_hget (m := 2) C 0 rfl rfl rfl ⟨by decide, by decide⟩) xe_int opd_eqI) (fun _ => (xt_lt (xe_hget (m := 1) C 0 rfl rfl rfl ⟨by decide, by decide⟩) (xe_len C 0 rfl (xe_hcells C 0 rfl rfl rfl) (.inl rfl)))))) (fun hb => ?_) (fun hb => ?_) (fun δ hδ => ?_)
    · have hb' : g.cur = 0 ∧ g.at_ < g.cells.length := by
        have := Bool.and_eq_true_iff.mp hb
        have e1 := of_decide_eq_true this.1
        have e2 := of_decide_eq_true this.2
        rw [List.length_map] at e2
        exact ⟨e1, e2⟩
      have hat : g.at_ = ((g.at_.toNat : Nat) : Int) := by unfold HOk' at hok; omega
      have hix : L2.atI (g.cells.map D.int) g.at_ = some (.int (g.cells.getD g.at_.toNat 0)) := by
        have hl : g.at_.toNat < g.cells.length := by unfold HOk' at hok; omega
        have h3 : (g.cells.map D.int)[g.at_.toNat]? = some (.int (g.cells.getD g.at_.toNat 0)) := by
          rw [List.getElem?_map, List.getElem?_eq_getElem hl, List.getD_eq_getElem?_getD, List.getElem?_eq_getElem hl]
          rfl
        have h4 := atI_nat h3
        rw [← hat] at h4
        exact h4
      refine xss_set C 2 rfl rfl (xe_ixL (xe_hcells C 0 rfl rfl rfl) (xe_hget (m := 1) C 0 rfl rfl rfl ⟨by decide, by decide⟩) rfl hix) ?_ (lt_of rfl)
      refine xss_hset (m := 1) C 0 rfl rfl (xe_add (xe_hget (m := 1) C 0 rfl rfl rfl ⟨by decide, by decide⟩) xe_int) rfl ⟨by decide, by decide⟩ ?_
      refine xss_hset (m := 3) C 0 rfl rfl (xe_mod (xe_int1 C 1 rfl (xe_add (xe_add (xe_mul (xe_hget (m := 3) C 0 rfl rfl rfl ⟨by decide, by decide⟩) xe_int (mulR _)) (xe_v C 2 rfl rfl rfl)) xe_int)) xe_int (by decide)) rfl ⟨by decide, by decide⟩ ?_
      refine xss_if (Mid := fun δ => ∃ x2, δ = [some (.hd p c (feed g)), some (.im (.int m)), x2, none, none]) (xt_ge (xe_v C 2 rfl rfl rfl) (xe_pow xe_int xe_int ⟨by decide, by decide, by decide⟩)) (fun hc2 => ?_) (fun hc2 => ?_) (fun δ z => xss_nil z)
      · refine xss_hset (m := 2) C 0 rfl rfl (xe_v C 2 rfl rfl rfl) rfl ⟨by decide, by decide⟩ (xss_nil ⟨some (.im (.int (g.cells.getD g.at_.toNat 0))), ?_⟩)
        have e : feed g = { g with at_ := g.at_ + 1, seed := (g.seed * 69621 + g.cells.getD g.at_.toNat 0 + 11) % 2147483629, cur := g.cells.getD g.at_.toNat 0 } := by
          unfold feed
          rw [if_pos hb', if_pos (show (10 : Int) ^ 18 ≤ g.cells.getD g.at_.toNat 0 from of_decide_eq_true hc2)]
        rw [e]
        rfl
      · refine xss_nil ⟨some (.im (.int (g.cells.getD g.at_.toNat 0))), ?_⟩
        have e : feed g = { g with at_ := g.at_ + 1, seed := (g.seed * 69621 + g.cells.getD g.at_.toNat 0 + 11) % 2147483629, cur := g.cur } := by
          unfold feed
          rw [if_pos hb', if_neg (show ¬ (10 : Int) ^ 18 ≤ g.cells.getD g.at_.toNat 0 from of_decide_eq_false hc2)]
        rw [e]
        rfl
    · refine xss_nil ⟨none, ?_⟩
      have e : feed g = g := by
        unfold feed
        refine if_neg fun z => ?_
        have : (decide (g.cur = 0) && decide (g.at_ < ((g.cells.map D.int).length : Int))) = true := by
          rw [decide_eq_true z.1, List.length_map, decide_eq_true z.2]
          rfl
        have hb2 : (decide (g.cur = 0) && decide (g.at_ < ((g.cells.map D.int).length : Int))) = false := hb
        rw [this] at hb2
        cases hb2
      rw [e]
      rfl
    · obtain ⟨x2, rfl⟩ := hδ
      by_cases hq : 0 < (feed g).cur
      · refine xss_if0 (xt_t (xt_gt (xe_hget (m := 2) C 0 rfl rfl rfl ⟨by decide, by decide⟩) xe_int) (decide_eq_true hq)) (fun _ => ?_) (by intro z; cases z)
        refine xss_set C 3 rfl rfl (xe_mod (xe_int1 C 1 rfl (xe_hget (m := 2) C 0 rfl rfl rfl ⟨by decide, by decide⟩)) (xe_v C 1 rfl rfl rfl) h0) ?_ (lt_of rfl)
        refine xss_hset (m := 2) C 0 rfl rfl (xe_fdiv (xe_hget (m := 2) C 0 rfl rfl rfl ⟨by decide, by decide⟩) (xe_v C 1 rfl rfl rfl) ⟨h0, h1⟩) rfl ⟨by decide, by decide⟩ ?_
        refine xss_ret (xe_v C 3 rfl rfl rfl) ?_ rfl
        unfold drawF
        rw [if_pos hq]
        exact ⟨rfl, rfl⟩
      · refine xss_if0 (xt_f (xt_gt (xe_hget (m := 2) C 0 rfl rfl rfl ⟨by decide, by decide⟩) xe_int) (decide_eq_false hq)) (by intro z; cases z) (fun _ => ?_)
        have small : ∀ {n M : Int}, 0 < M → M ≤ 2147483647 → CMul (n % M) ((n % M) / 1009 + 69621) ∧ CMul (n % M) ((n % M) / 2003 + 40692) := fun {n M} h h' => by
          have a1 := Int.emod_nonneg n (b := M) (by omega)
          have a2 := Int.emod_lt_of_pos n h
          exact ⟨.inl ⟨by omega, by omega⟩, .inl ⟨by omega, by omega⟩⟩
        have hm2 : CMul (rnd (feed g).seed ((feed g).cnt + 1)) (rnd (feed g).seed ((feed g).cnt + 1) / 1009 + 69621) := (small (n := ((feed g).seed + 7919 * ((feed g).cnt + 1)) * 48271) (M := 2147483647) (by decide) (by decide)).1
        have hm3 : CMul (rnd2 (rnd (feed g).seed ((feed g).cnt + 1))) (rnd2 (rnd (feed g).seed ((feed g).cnt + 1)) / 2003 + 40692) := (small (n := (rnd (feed g).seed ((feed g).cnt + 1)) * ((rnd (feed g).seed ((feed g).cnt + 1)) / 1009 + 69621)) (M := 2147483647) (by decide) (by decide)).2
        refine xss_hset (m := 4) C 0 rfl rfl (xe_add (xe_hget (m := 4) C 0 rfl rfl rfl ⟨by decide, by decide⟩) xe_int) rfl ⟨by decide, by decide⟩ ?_
        refine xss_set (x := .int (rnd (feed g).seed ((feed g).cnt + 1))) C 4 rfl rfl (xe_to (xe_mod (xe_int1 C 1 rfl (xe_mul (xe_int1 C 1 rfl (xe_add (xe_hget (m := 3) C 0 rfl rfl rfl ⟨by decide, by decide⟩) (xe_mul xe_int (xe_hget (m := 4) C 0 rfl rfl rfl ⟨by decide, by decide⟩) (.inl ⟨by decide, by decide⟩)))) xe_int (.inr ⟨by decide, by decide⟩))) xe_int (by decide)) rfl) ?_ (lt_of rfl)
        refine xss_set (x := .int (rnd2 (rnd (feed g).seed ((feed g).cnt + 1)))) C 4 rfl rfl (xe_mod (xe_int1 C 1 rfl (xe_mul (xe_v C 4 rfl rfl rfl) (xe_add (xe_fdiv (xe_v C 4 rfl rfl rfl) xe_int (show CDiv _ 1009 from ⟨by decide, by decide⟩)) xe_int) hm2)) xe_int (by decide)) ?_ (lt_of rfl)
        refine xss_set (x := .int (rnd3 (rnd2 (rnd (feed g).seed ((feed g).cnt + 1))))) C 4 rfl rfl (xe_mod (xe_int1 C 1 rfl (xe_mul (xe_v C 4 rfl rfl rfl) (xe_add (xe_fdiv (xe_v C 4 rfl rfl rfl) xe_int (show CDiv _ 2003 from ⟨by decide, by decide⟩)) xe_int) hm3)) xe_int (by decide)) ?_ (lt_of rfl)
        refine xss_ret (xe_mod (xe_int1 C 1 rfl (xe_fdiv (xe_v C 4 rfl rfl rfl) xe_int ⟨by decide, by decide⟩)) (xe_v C 1 rfl rfl rfl) h0) ?_ rfl
        unfold drawF
        rw [if_neg hq]
        exact ⟨rfl, rfl⟩
theorem c_L_draw (D : Df K mg "_law_draw" s_L_draw) (hg : Glb mg) : CalP P w K mg base 1 "_law_draw" (spH CS R_L_draw) :=
  mkH D hg sc_L_draw ok_L_draw (by intro _ _ _ _ h; cases h <;> rfl) (fun X hX C hr p c g ds r g' hR hc => b_L_draw C hr hR hc) (fun f fd F => F.binds fun _ _ _ _ _ _ us hl => match us, hl with | [_, _], _ => rfl)
end K06
/-! D10: waits drawn. -/
namespace K06
open PySem PySem.Spec L2
variable {P : Program} {w : World} {K : PySem.W.Frag} {mg : Str → Option Value} {base : Heap} {CS : Addr} {X : Cx}
theorem cons_erase_perm {l : List Nat} {i : Nat} (h : i < l.length) : (l[i] :: l.eraseIdx i).Perm l := by
  rw [List.eraseIdx_eq_take_drop_succ]
  have e : l = l.take i ++ l[i] :: l.drop (i + 1) := by
    rw [← List.drop_eq_getElem_cons h, List.take_append_drop]
  refine List.perm_middle.symm.trans ?_
  rw [← e]
theorem natsD_erase : ∀ (l : List Nat) (i : Nat), (natsD l).eraseIdx i = natsD (l.eraseIdx i)
  | [], _ => rfl
  | _ :: _, 0 => rfl
  | a :: l, i + 1 => by
    have := natsD_erase l i
    unfold natsD at this ⊢
    simp only [List.map_cons, List.eraseIdx_cons_succ, this]
theorem lf_encW (ws : List (List Nat)) : LFs (encW ws) = true := LFs_map (f := fun l => D.tup (natsD l)) (fun l => LFs_nats l) ws
/-- so many picked: the picked, those left, the hand -/
def pkF (g : Hand) (n : Nat) : Nat → List Nat × List Nat × Hand
  | 0 => ([], List.range n, g)
  | i + 1 => ((pkF g n i).1 ++ [(pkF g n i).2.1.getD (drawF (pkF g n i).2.2 (pkF g n i).2.1.length).1.toNat 0], (pkF g n i).2.1.eraseIdx (drawF (pkF g n i).2.2 (pkF g n i).2.1.length).1.toNat, (drawF (pkF g n i).2.2 (pkF g n i).2.1.length).2)
/-- of the first so many those whose draw is 0 -/
def selF (m : Int) (g : Hand) (l : List Nat) : Nat → List Nat × Hand
  | 0 => ([], g)
  | i + 1 => (if (drawF (selF m g l i).2 m).1 = 0 then (selF m g l i).1 ++ [l.getD i 0] else (selF m g l i).1, (drawF (selF m g l i).2 m).2)
def wtF (m : Int) (ord : List Nat) (n : Nat) (g : Hand) : Nat → List (List Nat) × Hand
  | 0 => (List.replicate n [], g)
  | i + 1 => ((wtF m ord n g i).1.set (ord.getD i 0) (sortN (selF m (wtF m ord n g i).2 (ord.take i) i).1), (selF m (wtF m ord n g i).2 (ord.take i) i).2)
def waitsG (g : Hand) (n : Nat) (m : Int) : List (List Nat) × Hand := wtF m (pkF g n n).1 n (pkF g n n).2.2 n
theorem pkF_ok {g : Hand} {n : Nat} (h : HOk' g) : ∀ i, i ≤ n → HOk' (pkF g n i).2.2 ∧ (pkF g n i).2.2.cells = g.cells ∧ (pkF g n i).1.length = i ∧ (pkF g n i).2.1.length = n - i ∧ ((pkF g n i).1 ++ (pkF g n i).2.1).Perm (List.range n)
  | 0, _ => ⟨h, rfl, rfl, by simp [pkF], by simp [pkF]⟩
  | i + 1, hi => by
    obtain ⟨h1, h2, h3, h4, h5⟩ := pkF_ok (n := n) h i (by omega)
    have hl : (0 : Int) < ((pkF g n i).2.1.length : Int) := by omega
    obtain ⟨d1, d2⟩ := drawF_lt (pkF g n i).2.2 hl
    have hlt : (drawF (pkF g n i).2.2 (pkF g n i).2.1.length).1.toNat < (pkF g n i).2.1.length := by omega
    refine ⟨drawF_ok _ h1, (drawF_cells _ _).trans h2, ?_, ?_, ?_⟩
    · show ((pkF g n i).1 ++ [_]).length = _
      rw [List.length_append, h3]
      rfl
    · show ((pkF g n i).2.1.eraseIdx _).length = _
      rw [List.length_eraseIdx_of_lt hlt, h4]
      omega
    · show ((pkF g n i).1 ++ [_] ++ (pkF g n i).2.1.eraseIdx _).Perm _
      refine List.Perm.trans ?_ h5
      rw [List.append_assoc]
      refine List.Perm.append_left _ ?_
      rw [List.singleton_append, List.getD_eq_getElem?_getD, List.getElem?_eq_getElem hlt]
      exact cons_erase_perm hlt
theorem selF_ok {m : Int} {g : Hand} {l : List Nat} (h : HOk' g) : ∀ i, HOk' (selF m g l i).2 ∧ (selF m g l i).2.cells = g.cells ∧ (selF m g l i).1.length ≤ i ∧ (i ≤ l.length → (selF m g l i).1.Sublist (l.take i))
  | 0 => ⟨h, rfl, Nat.le_refl _, fun _ => by simp [selF]⟩
  | i + 1 => by
    obtain ⟨h1, h2, h3, h4⟩ := selF_ok (m := m) (l := l) h i
    refine ⟨drawF_ok _ h1, (drawF_cells _ _).trans h2, ?_, fun hi => ?_⟩
    · show (if _ then _ else _ : List Nat).length ≤ _
      split
      · rw [List.length_append]
        simp
        exact h3
      · exact Nat.le_succ_of_le h3
    · show (if _ then _ else _ : List Nat).Sublist _
      have e : l[i]? = some (l.getD i 0) := by
        rw [List.getD_eq_getElem?_getD, List.getElem?_eq_getElem (by omega)]
        rfl
      rw [List.take_add_one, e]
      split
      · exact (h4 (by omega)).append (List.Sublist.refl _)
      · exact (h4 (by omega)).trans (List.sublist_append_left _ _)
theorem wtF_ok {m : Int} {ord : List Nat} {n : Nat} {g : Hand} (h : HOk' g) : ∀ i, HOk' (wtF m ord n g i).2 ∧ (wtF m ord n g i).2.cells = g.cells ∧ (wtF m ord n g i).1.length = n
  | 0 => ⟨h, rfl, by simp [wtF]⟩
  | i + 1 => by
    obtain ⟨h1, h2, h3⟩ := wtF_ok (m := m) (ord := ord) (n := n) h i
    obtain ⟨s1, s2, _⟩ := selF_ok (m := m) (l := ord.take i) h1 i
    exact ⟨s1, s2.trans h2, by show ((wtF m ord n g i).1.set _ _).length = n; rw [List.length_set]; exact h3⟩
theorem cutD_take (ds : List D) {m : Nat} (h : m ≤ ds.length) : cutD ds none (some (m : Nat)) = ds.take m := by
  unfold cutD
  have e1 : HT.sIx ds.length 0 none = 0 := rfl
  have e2 : HT.sIx ds.length ds.length (some ((m : Nat) : Int)) = m := by
    unfold HT.sIx
    simp only
    rw [if_neg (by omega)]
    omega
  rw [e1, e2]
  simp
inductive R_L_waits : Hand → List D → D → Hand → Prop
  | mk {g : Hand} {n : Nat} {m : Int} : HOk' g → n ≤ 16 → 0 < m → m < 1073741824 → R_L_waits g [.int (n : Nat), .int m] (.lst (encW (waitsG g n m).1)) (waitsG g n m).2
theorem b_L_waits (C : Ctx X (defScope s_L_waits) N_L_waits V_L_waits V_L_waits G_L_waits) (hr : Room 1 X.A) (c_L_draw : CalX X 1 "_law_draw" (spH CS R_L_draw)) {p c : Addr} {g g' : Hand} {ds : List D} {r : D} (hR : R_L_waits g ds r g') (hc : g'.cells = g.cells) :
    XSs X CS (defBody s_L_waits) (startD N_L_waits (.hd p c g :: ds.map Slot.im)) { nx := fun _ => False, rt := fun δ d => d = r ∧ δ[0]? = some (some (.hd p c g')) } := by
  cases hR with
  | @mk n m hok hn h0 h1 =>
    have pk := fun i (hi : i ≤ n) => pkF_ok (g := g) (n := n) hok i hi
    refine xss_setL C 3 rfl rfl (xe_listR C 0 1 rfl rfl (xe_v C 1 rfl rfl rfl) (by omega)) (LFs_nats _) (fun ll => ?_) (lt_of rfl)
    refine xss_setLc C 4 rfl rfl (by decide +kernel) [0, 3, 8] [8] ["_law_draw", "len"] (own := [("_law_turn", 8)]) (accF := natsD (pkF g n n).1) (δF := [some (.hd p c (pkF g n n).2.2), some (.im (.int (n : Nat))), some (.im (.int m)), some (.ml ll (natsD (pkF g n n).2.1)), none, none, none, none, none, none])
      (xi_r C 1 rfl (xe_v C 1 rfl rfl rfl) (by omega)) (by decide +kernel) (by decide +kernel) (LFs_nats _) (by rw [natsD_len, List.length_range]; omega)
      (fun i acc δ => acc = natsD (pkF g n i).1 ∧ δ = [some (.hd p c (pkF g n i).2.2), some (.im (.int (n : Nat))), some (.im (.int m)), some (.ml ll (natsD (pkF g n i).2.1)), none, none, none, none, none, none]) ⟨rfl, rfl⟩ (fun i d acc δ hd hI => ?_) (fun acc δ hI => by rw [natsD_len, List.length_range] at hI; exact hI) (LFs_nats _) (used_swapsL (by rw [C.hsc]; rfl) (by rw [C.hsc]; rfl) rfl (by decide +kernel)) (lt_of rfl) ?_
    · obtain ⟨rfl, rfl⟩ := hI
      have hin : i < n := by
        have := (List.getElem?_eq_some_iff.mp hd).1
        rw [natsD_len, List.length_range] at this
        exact this
      obtain ⟨k1, k2, k3, k4, k5⟩ := pk i (by omega)
      have hl : (0 : Int) < ((pkF g n i).2.1.length : Int) := by omega
      obtain ⟨d1, d2⟩ := drawF_lt (pkF g n i).2.2 hl
      have hlt : (drawF (pkF g n i).2.2 (pkF g n i).2.1.length).1.toNat < (pkF g n i).2.1.length := by omega
      have hx : (natsD (pkF g n i).2.1)[(drawF (pkF g n i).2.2 (pkF g n i).2.1.length).1.toNat]? = some (.int ((((pkF g n i).2.1.getD (drawF (pkF g n i).2.2 (pkF g n i).2.1.length).1.toNat 0 : Nat)) : Int)) := by
        refine natsD_get ?_
        rw [List.getD_eq_getElem?_getD, List.getElem?_eq_getElem hlt]
        rfl
      refine ⟨_, _, true, _, rfl, fun Y hB D => (xg_n D 8 rfl rfl (lt_of rfl)), fun Y hB D => xts_nil, fun _ => ⟨_, _, fun Y hB D => (xe_popAt (m := (drawF (pkF g n i).2.2 (pkF g n i).2.1.length).1.toNat) D 3 rfl rfl rfl (xe_i (xn (xe_callH (CalP.blk c_L_draw hB) (Room.blk hr hB) (by decide) D 0 rfl 0 rfl rfl rfl (xa_cons (xe_i (xe_len D 1 rfl (xe_m D 3 rfl rfl rfl rfl) (.inl ⟨3, rfl⟩)) (by rw [natsD_len])) xa_nil) rfl (argc_ds _ [_]) (.mk k1 hl (by omega)) (drawF_cells _ _))) (by omega)) rfl hx (by rw [natsD_len]; omega)), rfl, ?_, ?_⟩, (by intro z; cases z)⟩
      · show natsD (pkF g n i).1 ++ [_] = natsD ((pkF g n i).1 ++ [_])
        rw [natsD_app]
        rfl
      · have e : (natsD (pkF g n i).2.1).eraseIdx (drawF (pkF g n i).2.2 (pkF g n i).2.1.length).1.toNat = natsD (pkF g n (i + 1)).2.1 := natsD_erase _ _
        rw [← e]
        rfl
    · obtain ⟨k1, k2, k3, k4, k5⟩ := pk n (Nat.le_refl n)
      have hol : (pkF g n n).1.length = n := k3
      have hperm : (pkF g n n).1.Perm (List.range n) := by
        have : (pkF g n n).2.1 = [] := List.eq_nil_of_length_eq_zero (by omega)
        rw [this, List.append_nil] at k5
        exact k5
      have erep : List.replicate n (D.tup []) = encW (List.replicate n []) := by simp [encW, natsD]
      refine xss_setL C 5 rfl rfl (xe_rep (k := n) (x := .tup []) (xe_lst (ds := [_]) (xa_cons (xe_tup (ds := []) xa_nil (le_of rfl)) xa_nil) (le_of rfl) rfl) (xe_v C 1 rfl rfl rfl) rfl (by omega) rfl) (LFs_all fun d hd => by rw [(List.mem_replicate.mp hd).2]; rfl) (fun lf => ?_) (lt_of rfl)
      rw [erep]
      refine xss_for C (xi_el C 2 rfl (xe_v C 4 rfl rfl rfl) rfl) (fun i δ => ∃ x6 x7, δ = [some (.hd p c (wtF m (pkF g n n).1 n (pkF g n n).2.2 i).2), some (.im (.int (n : Nat))), some (.im (.int m)), some (.ml ll (natsD (pkF g n n).2.1)), some (.im (.lst (natsD (pkF g n n).1))), some (.ml lf (encW (wtF m (pkF g n n).1 n (pkF g n n).2.2 i).1)), x6, x7, none, none]) _ ⟨none, none, rfl⟩ (fun i d δ hd hI => ?_) (fun δ z => z) (fun δ hI => ?_)
      · obtain ⟨x6, x7, rfl⟩ := hI
        obtain ⟨d', hd', rfl⟩ := enumD_of hd
        obtain ⟨o, ho, rfl⟩ := natsD_of hd'
        have hin : i < n := by
          have := (List.getElem?_eq_some_iff.mp ho).1
          omega
        have hon : o < n := List.mem_range.mp (hperm.mem_iff.mp (List.mem_of_getElem? ho))
        have ego : (pkF g n n).1.getD i 0 = o := by rw [List.getD_eq_getElem?_getD, ho]; rfl
        obtain ⟨w1, w2, w3⟩ := wtF_ok (m := m) (ord := (pkF g n n).1) (n := n) k1 i
        have sl := fun j => selF_ok (m := m) (l := (pkF g n n).1.take i) w1 j
        have htk : ((pkF g n n).1.take i).length = i := by rw [List.length_take]; omega
        have ecut : cutD (natsD (pkF g n n).1) none (some ((i : Nat) : Int)) = natsD ((pkF g n n).1.take i) := by
          rw [cutD_take _ (by rw [natsD_len]; omega)]
          unfold natsD
          rw [← List.map_take, ← List.map_take]
        refine ⟨_, _, (xg_t C (xgs_cons (xg_n C 6 rfl rfl (lt_of rfl)) (xgs_cons (xg_n C 7 rfl rfl (lt_of rfl)) xgs_nil)) rfl), ?_⟩
        refine xss_setI (m := o) C 5 rfl rfl (xe_tuple C 3 rfl (xe_sorted (ns := (selF m (wtF m (pkF g n n).1 n (pkF g n n).2.2 i).2 ((pkF g n n).1.take i) i).1.map fun i => ((i : Nat) : Int)) C 4 rfl (xe_lc (own := [("_law_other", 9)]) (accF := natsD (selF m (wtF m (pkF g n n).1 n (pkF g n n).2.2 i).2 ((pkF g n n).1.take i) i).1) (δF := [some (.hd p c (selF m (wtF m (pkF g n n).1 n (pkF g n n).2.2 i).2 ((pkF g n n).1.take i) i).2), some (.im (.int (n : Nat))), some (.im (.int m)), some (.ml ll (natsD (pkF g n n).2.1)), some (.im (.lst (natsD (pkF g n n).1))), some (.ml lf (encW (wtF m (pkF g n n).1 n (pkF g n n).2.2 i).1)), some (.im (.int (i : Nat))), some (.im (.int (o : Nat))), none, none]) C [0, 2, 9] [9] ["_law_draw"] (xi_l (xn_to (y := .lst (natsD ((pkF g n n).1.take i))) (xe_slL (xe_v C 4 rfl rfl rfl) xo_none (xo_some (xe_v C 6 rfl rfl rfl)) rfl (by rw [ecut]; exact LFs_nats _)) (by rw [ecut])) rfl) (by decide +kernel) (by decide +kernel) (LFs_nats _) (by rw [natsD_len]; omega)
          (fun j acc δ => acc = natsD (selF m (wtF m (pkF g n n).1 n (pkF g n n).2.2 i).2 ((pkF g n n).1.take i) j).1 ∧ δ = [some (.hd p c (selF m (wtF m (pkF g n n).1 n (pkF g n n).2.2 i).2 ((pkF g n n).1.take i) j).2), some (.im (.int (n : Nat))), some (.im (.int m)), some (.ml ll (natsD (pkF g n n).2.1)), some (.im (.lst (natsD (pkF g n n).1))), some (.ml lf (encW (wtF m (pkF g n n).1 n (pkF g n n).2.2 i).1)), some (.im (.int (i : Nat))), some (.im (.int (o : Nat))), none, none]) ⟨rfl, rfl⟩ (fun j d acc δ hd hI => ?_) (fun acc δ hI => by rw [natsD_len, htk] at hI; exact hI) (LFs_nats _)) rfl ((sortN_perm _).map _) (cast_up2 (sortN_up _))) rfl) rfl (xe_v C 7 rfl rfl rfl) (ixN_nat (by rw [encW_len, w3]; exact hon)) (LFs_nats _) ?_
        · obtain ⟨rfl, rfl⟩ := hI
          obtain ⟨y, hy, rfl⟩ := natsD_of hd
          obtain ⟨s1, s2, s3, s4⟩ := sl j
          have eg : ((pkF g n n).1.take i).getD j 0 = y := by rw [List.getD_eq_getElem?_getD, hy]; rfl
          refine ⟨_, _, decide ((drawF (selF m (wtF m (pkF g n n).1 n (pkF g n n).2.2 i).2 ((pkF g n n).1.take i) j).2 m).1 = 0), _, rfl, fun Y hB D => (xg_n D 9 rfl rfl (lt_of rfl)), fun Y hB D => (xts_one (xt_eq (xn (xe_callH (CalP.blk c_L_draw hB) (Room.blk hr hB) (by decide) D 0 rfl 0 rfl rfl rfl (xa_cons (xe_v D 2 rfl rfl rfl) xa_nil) rfl (argc_ds _ [_]) (.mk s1 h0 h1) (drawF_cells _ _))) xe_int opd_eqI)), fun hb => ⟨_, _, fun Y hB D => (xe_v D 9 rfl rfl rfl), rfl, ?_, rfl⟩, fun hb => ⟨?_, rfl⟩⟩
          · show _ = natsD (if _ then _ else _)
            rw [if_pos (of_decide_eq_true hb), natsD_app, eg]
            rfl
          · show _ = natsD (if _ then _ else _)
            rw [if_neg (of_decide_eq_false hb)]
        · refine xss_nil ⟨some (.im (.int (i : Nat))), some (.im (.int (o : Nat))), ?_⟩
          have e : (encW (wtF m (pkF g n n).1 n (pkF g n n).2.2 i).1).set o (D.tup (natsD (sortN (selF m (wtF m (pkF g n n).1 n (pkF g n n).2.2 i).2 ((pkF g n n).1.take i) i).1))) = encW (wtF m (pkF g n n).1 n (pkF g n n).2.2 (i + 1)).1 := by
            show _ = encW ((wtF m (pkF g n n).1 n (pkF g n n).2.2 i).1.set _ _)
            rw [ego]
            unfold encW
            rw [List.map_set]
          rw [← e]
          rfl
      · obtain ⟨x6, x7, rfl⟩ := hI
        rw [enumD_len, natsD_len, hol]
        exact xss_retm (k := 5) (xe_m C 5 rfl rfl rfl rfl) rfl ⟨rfl, rfl⟩ (lf_encW _)
theorem c_L_waits (D : Df K mg "_law_waits" s_L_waits) (hg : Glb mg) (c_L_draw : CalP P w K mg base 1 "_law_draw" (spH CS R_L_draw)) : CalP P w K mg base 2 "_law_waits" (spH CS R_L_waits) :=
  mkH D hg sc_L_waits ok_L_waits (by intro _ _ _ _ h; cases h <;> rfl) (fun X hX C hr p c g ds r g' hR hc => b_L_waits C hr (hX.cal c_L_draw) hR hc) (fun f fd F => F.binds fun _ _ _ _ _ _ us hl => match us, hl with | [_, _, _], _ => rfl)
end K06
/-! M8: what is drawn is right. -/
namespace K06
theorem take_idx {l : List Nat} (nd : l.Nodup) {i x : Nat} (h : x ∈ l.take i) : l.idxOf x < i ∧ x ∈ l := by
  have hx := List.mem_of_mem_take h
  obtain ⟨k, hk⟩ := List.mem_iff_getElem?.mp h
  have hk2 := (List.getElem?_eq_some_iff.mp hk).1
  rw [List.length_take] at hk2
  rw [List.getElem?_take_of_lt (by omega)] at hk
  rw [idxOf_get nd hk]
  exact ⟨by omega, hx⟩
theorem wt_right {m : Int} {ord : List Nat} {n : Nat} {g : Hand} (h : HOk' g) (hp : ord.Perm (List.range n)) : ∀ i, i ≤ n → ∀ (d : Nat) (l : List Nat), (wtF m ord n g i).1[d]? = some l → l.Pairwise (· < ·) ∧ ∀ j ∈ l, j < n ∧ ord.idxOf j < ord.idxOf d
  | 0, _, d, l, e => by
    have : l ∈ List.replicate n [] := List.mem_of_getElem? e
    rw [(List.mem_replicate.mp this).2]
    exact ⟨List.Pairwise.nil, by simp⟩
  | i + 1, hi, d, l, e => by
    have nd : ord.Nodup := hp.nodup_iff.mpr List.nodup_range
    have hol : ord.length = n := by rw [hp.length_eq, List.length_range]
    have ih := wt_right (m := m) h hp i (by omega)
    obtain ⟨w1, w2, w3⟩ := wtF_ok (m := m) (ord := ord) (n := n) h i
    have e' : ((wtF m ord n g i).1.set (ord.getD i 0) (sortN (selF m (wtF m ord n g i).2 (ord.take i) i).1))[d]? = some l := e
    have ho : ord[i]? = some (ord.getD i 0) := by
      rw [List.getD_eq_getElem?_getD, List.getElem?_eq_getElem (by omega)]
      rfl
    have hon : ord.getD i 0 < n := List.mem_range.mp (hp.mem_iff.mp (List.mem_of_getElem? ho))
    by_cases q : ord.getD i 0 = d
    · rw [q, List.getElem?_set_self (by rw [w3, ← q]; exact hon)] at e'
      have el := (Option.some.inj e').symm
      obtain ⟨_, _, _, s4⟩ := selF_ok (m := m) (l := ord.take i) w1 i
      have sub := s4 (by rw [List.length_take]; omega)
      rw [List.take_take, Nat.min_self] at sub
      rw [el]
      refine ⟨sortN_ups ((nd.sublist (List.take_sublist _ _)).sublist sub), fun j hj => ?_⟩
      obtain ⟨t1, t2⟩ := take_idx nd (sub.subset (mem_sortN.mp hj))
      refine ⟨List.mem_range.mp (hp.mem_iff.mp t2), ?_⟩
      rw [← q, idxOf_get nd ho]
      exact t1
    · rw [List.getElem?_set_ne q] at e'
      exact ih d l e'
/-- lots of waits -/
structure WsOk (n : Nat) (ws : List (List Nat)) : Prop where
  len : ws.length = n
  asc : ∀ (d : Nat) (l : List Nat), ws[d]? = some l → Asc l n
  ac : Acyc ws
theorem waitsG_ok {g : Hand} {n : Nat} {m : Int} (h : HOk' g) : WsOk n (waitsG g n m).1 ∧ HOk' (waitsG g n m).2 ∧ (waitsG g n m).2.cells = g.cells := by
  obtain ⟨k1, k2, k3, k4, k5⟩ := pkF_ok (n := n) h n (Nat.le_refl n)
  have hperm : (pkF g n n).1.Perm (List.range n) := by
    have : (pkF g n n).2.1 = [] := List.eq_nil_of_length_eq_zero (by omega)
    rw [this, List.append_nil] at k5
    exact k5
  obtain ⟨w1, w2, w3⟩ := wtF_ok (m := m) (ord := (pkF g n n).1) (n := n) k1 n
  have r := wt_right (m := m) k1 hperm n (Nat.le_refl n)
  refine ⟨⟨w3, fun d l e => ⟨(r d l e).1, fun x hx => ((r d l e).2 x hx).1⟩, ⟨(pkF g n n).1.idxOf, fun i l hl j hj => ((r i l hl).2 j hj).2⟩⟩, w1, w2.trans k2⟩
theorem noWaits (n : Nat) : WsOk n (List.replicate n []) := by
  refine ⟨List.length_replicate, fun d l e => ?_, ⟨fun _ => 0, fun i l hl j hj => ?_⟩⟩
  · rw [(List.mem_replicate.mp (List.mem_of_getElem? e)).2]
    exact ⟨List.Pairwise.nil, by simp⟩
  · rw [(List.mem_replicate.mp (List.mem_of_getElem? hl)).2] at hj
    simp at hj

/-! ### firsts, needs -/
/-- first places, the head, the hand behind so many deeds -/
def fsF (b m h : Int) (g : Hand) : Nat → List (Option Int) × Int × Hand
  | 0 => ([], h, g)
  | i + 1 => if ((i : Nat) : Int) < b then ((fsF b m h g i).1 ++ [some (fsF b m h g i).2.1], (fsF b m h g i).2.1 + (1 + (drawF (fsF b m h g i).2.2 m).1), (drawF (fsF b m h g i).2.2 m).2)
    else ((fsF b m h g i).1 ++ [none], (fsF b m h g i).2.1 + 0, (fsF b m h g i).2.2)
def EldO (a b : Option Int) : Prop := b = none ∨ ∃ x y, a = some x ∧ b = some y ∧ x < y
theorem fsF_ok {b m h : Int} {g : Hand} (hm : 0 < m) (h0 : 0 ≤ h) (hg : HOk' g) : ∀ i, HOk' (fsF b m h g i).2.2 ∧ (fsF b m h g i).2.2.cells = g.cells ∧ (fsF b m h g i).1.length = i ∧ 0 ≤ (fsF b m h g i).2.1 ∧ (fsF b m h g i).2.1 ≤ h + i * m ∧
    (∀ a ∈ (fsF b m h g i).1, ∀ f, a = some f → 0 ≤ f ∧ f < (fsF b m h g i).2.1) ∧ (fsF b m h g i).1.Pairwise EldO ∧ (((i : Nat) : Int) ≤ b → ∀ a ∈ (fsF b m h g i).1, a ≠ none)
  | 0 => ⟨hg, rfl, rfl, h0, by simp [fsF], by simp [fsF], List.Pairwise.nil, by simp [fsF]⟩
  | i + 1 => by
    obtain ⟨a1, a2, a3, a4, a5, a6, a7, a8⟩ := fsF_ok hm h0 hg (b := b) i
    have hmi : h + ((i + 1 : Nat) : Int) * m = h + i * m + m := by
      rw [show ((i + 1 : Nat) : Int) = (i : Int) + 1 by omega, Int.add_mul, Int.one_mul, Int.add_assoc]
    by_cases q : ((i : Nat) : Int) < b
    · have e : fsF b m h g (i + 1) = ((fsF b m h g i).1 ++ [some (fsF b m h g i).2.1], (fsF b m h g i).2.1 + (1 + (drawF (fsF b m h g i).2.2 m).1), (drawF (fsF b m h g i).2.2 m).2) := if_pos q
      obtain ⟨d1, d2⟩ := drawF_lt (fsF b m h g i).2.2 hm
      rw [e]
      refine ⟨drawF_ok _ a1, (drawF_cells _ _).trans a2, by simp [a3], ?_, ?_, fun a ha f ef => ?_, ?_, fun _ a ha => ?_⟩
      · show 0 ≤ (fsF b m h g i).2.1 + (1 + (drawF (fsF b m h g i).2.2 m).1)
        omega
      · show (fsF b m h g i).2.1 + (1 + (drawF (fsF b m h g i).2.2 m).1) ≤ _
        rw [hmi]
        omega
      · show 0 ≤ f ∧ f < (fsF b m h g i).2.1 + (1 + (drawF (fsF b m h g i).2.2 m).1)
        rcases List.mem_append.mp ha with z | z
        · have := a6 a z f ef
          omega
        · rw [List.mem_singleton.mp z] at ef
          have := Option.some.inj ef
          omega
      · rw [List.pairwise_append]
        refine ⟨a7, List.pairwise_singleton _ _, fun a ha c hc => ?_⟩
        rw [List.mem_singleton.mp hc]
        have := a8 (by omega) a ha
        cases qa : a with
        | none => exact absurd qa this
        | some f => exact .inr ⟨f, _, rfl, rfl, (a6 a ha f qa).2⟩
      · rcases List.mem_append.mp ha with z | z
        · exact a8 (by omega) a z
        · rw [List.mem_singleton.mp z]; simp
    · have e : fsF b m h g (i + 1) = ((fsF b m h g i).1 ++ [none], (fsF b m h g i).2.1 + 0, (fsF b m h g i).2.2) := if_neg q
      rw [e]
      refine ⟨a1, a2, by simp [a3], by show 0 ≤ (fsF b m h g i).2.1 + 0; omega, ?_, fun a ha f ef => ?_, ?_, fun hb => absurd hb (by omega)⟩
      · show (fsF b m h g i).2.1 + 0 ≤ _
        rw [hmi]
        omega
      · show 0 ≤ f ∧ f < (fsF b m h g i).2.1 + 0
        rw [Int.add_zero]
        rcases List.mem_append.mp ha with z | z
        · exact a6 a z f ef
        · rw [List.mem_singleton.mp z] at ef
          cases ef
      · rw [List.pairwise_append]
        exact ⟨a7, List.pairwise_singleton _ _, fun a ha c hc => by rw [List.mem_singleton.mp hc]; exact .inl rfl⟩
/-- needs drawn -/
def ndF (m : Int) (g : Hand) : Nat → List Int × Hand
  | 0 => ([], g)
  | i + 1 => ((ndF m g i).1 ++ [(drawF (ndF m g i).2 m).1], (drawF (ndF m g i).2 m).2)
theorem ndF_ok {m : Int} {g : Hand} (hm : 0 < m) (hg : HOk' g) : ∀ i, HOk' (ndF m g i).2 ∧ (ndF m g i).2.cells = g.cells ∧ (ndF m g i).1.length = i ∧ ∀ x ∈ (ndF m g i).1, 0 ≤ x ∧ x < m
  | 0 => ⟨hg, rfl, rfl, by simp [ndF]⟩
  | i + 1 => by
    obtain ⟨a1, a2, a3, a4⟩ := ndF_ok hm hg i
    refine ⟨drawF_ok _ a1, (drawF_cells _ _).trans a2, by simp [ndF, a3], fun x hx => ?_⟩
    rcases List.mem_append.mp hx with z | z
    · exact a4 x z
    · rw [List.mem_singleton.mp z]
      exact drawF_lt _ hm
/-- the deeds of firsts, needs, waits -/
def mkDs (n : Nat) (fs : List (Option Int)) (ns : List Int) (ws : List (List Nat)) : List Deed := (List.range n).map fun i => ⟨fs.getD i none, ns.getD i 0, ws.getD i []⟩
theorem mkDs_len (n : Nat) (fs : List (Option Int)) (ns : List Int) (ws : List (List Nat)) : (mkDs n fs ns ws).length = n := by simp [mkDs]
theorem mkDs_get {n i : Nat} {fs : List (Option Int)} {ns : List Int} {ws : List (List Nat)} {d : Deed} (h : (mkDs n fs ns ws)[i]? = some d) : i < n ∧ d = ⟨fs.getD i none, ns.getD i 0, ws.getD i []⟩ := by
  have hi := (List.getElem?_eq_some_iff.mp h).1
  rw [mkDs_len] at hi
  unfold mkDs at h
  rw [List.getElem?_map, List.getElem?_range hi] at h
  exact ⟨hi, (Option.some.inj h).symm⟩
theorem getD_at {α : Type} {l : List α} {i : Nat} (h : i < l.length) (d : α) : l[i]? = some (l.getD i d) := by
  rw [List.getD_eq_getElem?_getD, List.getElem?_eq_getElem h]
  rfl
theorem mkDs_ok {n : Nat} {b h : Int} {fs : List (Option Int)} {ns : List Int} {ws : List (List Nat)} (hn : n ≤ 30) (h0 : 0 ≤ h) (hb : h ≤ b) (lf : fs.length = n) (ln : ns.length = n) (nd : ∀ x ∈ ns, 0 ≤ x ∧ x ≤ b) (fo : ∀ a ∈ fs, ∀ f, a = some f → 0 ≤ f ∧ f < h) (up : fs.Pairwise EldO) (wo : WsOk n ws) : Ok b h (mkDs n fs ns ws) := by
  have hw : wts (mkDs n fs ns ws) = ws := by
    unfold wts mkDs
    rw [List.map_map]
    refine List.ext_getElem? fun i => ?_
    by_cases hi : i < n
    · rw [List.getElem?_map, List.getElem?_range hi, getD_at (l := ws) (by rw [wo.len]; exact hi) []]
      rfl
    · rw [List.getElem?_eq_none (by simp; omega), List.getElem?_eq_none (by rw [wo.len]; omega)]
  refine ⟨by rw [mkDs_len]; exact hn, h0, hb, fun d hd => ?_, fun d hd f ef => ?_, ?_, fun i d e => ?_, by rw [hw]; exact wo.ac⟩
  · obtain ⟨i, hi⟩ := List.mem_iff_getElem?.mp hd
    obtain ⟨h1, rfl⟩ := mkDs_get hi
    exact nd _ (List.mem_of_getElem? (getD_at (by rw [ln]; exact h1) 0))
  · obtain ⟨i, hi⟩ := List.mem_iff_getElem?.mp hd
    obtain ⟨h1, rfl⟩ := mkDs_get hi
    exact fo _ (List.mem_of_getElem? (getD_at (by rw [lf]; exact h1) none)) f ef
  · unfold mkDs
    rw [List.pairwise_map]
    refine List.pairwise_lt_range.imp_of_mem fun {i j} hi hj hij => ?_
    have hi' := List.mem_range.mp hi
    have hj' := List.mem_range.mp hj
    have := List.pairwise_iff_getElem.mp up i j (by omega) (by omega) hij
    have e1 : fs.getD i none = fs[i] := by
      rw [List.getD_eq_getElem?_getD, List.getElem?_eq_getElem (by omega)]
      rfl
    have e2 : fs.getD j none = fs[j] := by
      rw [List.getD_eq_getElem?_getD, List.getElem?_eq_getElem (by omega)]
      rfl
    show (fs.getD j none = none ∨ ∃ x y, fs.getD i none = some x ∧ fs.getD j none = some y ∧ x < y)
    rw [e1, e2]
    exact this
  · obtain ⟨h1, rfl⟩ := mkDs_get e
    rw [mkDs_len]
    exact wo.asc i _ (getD_at (by rw [wo.len]; exact h1) [])
/-- head and deeds drawn -/
def begG (g : Hand) (n : Nat) : Int := (n : Int) - ([0, 0, 1, 2] : List Int).getD (drawF g 4).1.toNat 0
def g1G (g : Hand) : Hand := (drawF (drawF g 4).2 5).2
def fsG (g : Hand) (n : Nat) (m : Int) := fsF (begG g n) m (drawF (drawF g 4).2 5).1 (g1G g) n
def wsG (g : Hand) (n : Nat) (m s : Int) : List (List Nat) × Hand := if 0 < s then waitsG (fsG g n m).2.2 n s else (List.replicate n [], (fsG g n m).2.2)
def ndG (g : Hand) (n : Nat) (m s : Int) := ndF m (wsG g n m s).2 n
def dsG (g : Hand) (n : Nat) (m s : Int) : List Deed := mkDs n (fsG g n m).1 (ndG g n m s).1 (wsG g n m s).1
def hG (g : Hand) (n : Nat) (m : Int) : Int := (fsG g n m).2.1
theorem fsG_ok {g : Hand} {n : Nat} {m : Int} (hg : HOk' g) (hm : 0 < m) : HOk' (fsG g n m).2.2 ∧ (fsG g n m).2.2.cells = (g1G g).cells ∧ (fsG g n m).1.length = n ∧ 0 ≤ (fsG g n m).2.1 ∧ (fsG g n m).2.1 ≤ (drawF (drawF g 4).2 5).1 + n * m ∧
    (∀ a ∈ (fsG g n m).1, ∀ f, a = some f → 0 ≤ f ∧ f < (fsG g n m).2.1) ∧ (fsG g n m).1.Pairwise EldO ∧ (((n : Nat) : Int) ≤ begG g n → ∀ a ∈ (fsG g n m).1, a ≠ none) := fsF_ok (b := begG g n) hm (drawF_lt (drawF g 4).2 (by decide : (0 : Int) < 5)).1 (drawF_ok 5 (drawF_ok 4 hg)) n
theorem wsG_ok {g : Hand} {n : Nat} {m s : Int} (hg : HOk' g) (hm : 0 < m) : WsOk n (wsG g n m s).1 ∧ HOk' (wsG g n m s).2 ∧ (wsG g n m s).2.cells = g.cells := by
  obtain ⟨a1, a2, _⟩ := fsG_ok (n := n) hg hm
  have a2' : (fsG g n m).2.2.cells = g.cells := a2.trans ((drawF_cells _ _).trans (drawF_cells _ _))
  unfold wsG
  by_cases q : 0 < s
  · rw [if_pos q]
    obtain ⟨b1, b2, b3⟩ := waitsG_ok (n := n) (m := s) a1
    exact ⟨b1, b2, b3.trans a2'⟩
  · rw [if_neg q]
    exact ⟨noWaits n, a1, a2'⟩
theorem dsG_ok {g : Hand} {n : Nat} {m s : Int} (hg : HOk' g) (hm : 0 < m) (hn : n ≤ 30) : Ok (4 + (n + 1) * m) (hG g n m) (dsG g n m s) ∧ HOk' (ndG g n m s).2 ∧ (ndG g n m s).2.cells = g.cells := by
  obtain ⟨a1, a2, a3, a4, a5, a6, a7, a8⟩ := fsG_ok (n := n) hg hm
  obtain ⟨w1, w2, w3⟩ := wsG_ok (n := n) (s := s) hg hm
  obtain ⟨n1, n2, n3, n4⟩ := ndF_ok hm w2 n
  have h5 := (drawF_lt (drawF g 4).2 (by decide : (0 : Int) < 5)).2
  have hnm : ((n : Int) + 1) * m = n * m + m := by rw [Int.add_mul, Int.one_mul]
  have hnm0 : 0 ≤ (n : Int) * m := Int.mul_nonneg (by omega) (by omega)
  refine ⟨mkDs_ok hn a4 ?_ a3 n3 (fun x hx => ?_) a6 a7 w1, n1, n2.trans w3⟩
  · have : hG g n m ≤ (drawF (drawF g 4).2 5).1 + n * m := a5
    rw [hnm]
    show hG g n m ≤ _
    omega
  · have := n4 x hx
    rw [hnm]
    omega
end K06
/-! D11: deeds drawn. -/
namespace K06
open PySem PySem.Spec L2
variable {P : Program} {w : World} {K : PySem.W.Frag} {mg : Str → Option Value} {base : Heap} {CS : Addr} {X : Cx}
/-- an item of a written list of ints, drawn -/
theorem drawn_at {g : Hand} (is : List Int) {m : Int} (hm : 0 < m) (hl : (is.length : Int) = m) : L2.atI (is.map D.int) (drawF g m).1 = some (.int (is.getD (drawF g m).1.toNat 0)) := by
  obtain ⟨d1, d2⟩ := drawF_lt g hm
  have e : (drawF g m).1 = (((drawF g m).1.toNat : Nat) : Int) := by omega
  have hlt : (drawF g m).1.toNat < is.length := by omega
  have h3 : (is.map D.int)[(drawF g m).1.toNat]? = some (.int (is.getD (drawF g m).1.toNat 0)) := by
    rw [List.getElem?_map, getD_at hlt 0]
    rfl
  have h4 := atI_nat h3
  rw [← e] at h4
  exact h4
theorem cell_swapsL {elt : Expr} {gens : List Comprehension} {scope : Scope} {pos py : Pos} {y : Str} {l : Nat} {env : Env} (hk : env.scope.kind = .function) (hy : env.scope.names.lookup y = some .cell) : swapsWith (.ListComp elt gens scope pos) (some (.Name y py)) l env = pure false := by
  have ky : env.kindOf y = some .cell := hy
  have hb : env.blockKind = .function := by unfold Env.blockKind; rw [hk]; rfl
  unfold swapsWith
  simp only [hb, ky, Expr.pos]
  rfl
inductive R_L_deeds : Hand → List D → D → Hand → Prop
  | mk {g : Hand} {n : Nat} {m s : Int} : HOk' g → n ≤ 16 → 0 < m → m < 1073741824 → s < 1073741824 → R_L_deeds g [.int (n : Nat), .int m, .int s] (.tup [.int (hG g n m), .tup (encDs (dsG g n m s))]) (ndG g n m s).2
theorem lf_opts (fs : List (Option Int)) : LFs (fs.map optD) = true := LFs_map lf_optD fs
theorem b_L_deeds (C : Ctx X (defScope s_L_deeds) N_L_deeds V_L_deeds V_L_deeds G_L_deeds) (hr : Room 2 X.A) (c_L_draw : CalX X 1 "_law_draw" (spH CS R_L_draw)) (c_L_waits : CalX X 2 "_law_waits" (spH CS R_L_waits)) {p c : Addr} {g g' : Hand} {ds : List D} {r : D} (hR : R_L_deeds g ds r g') (hc : g'.cells = g.cells) :
    XSs X CS (defBody s_L_deeds) (startD N_L_deeds (.hd p c g :: ds.map Slot.im)) { nx := fun _ => False, rt := fun δ d => d = r ∧ δ[0]? = some (some (.hd p c g')) } := by
  cases hR with
  | @mk n m s hok hn h0 h1 hs1 =>
    have q1 := drawF_ok 4 hok
    have q2 := drawF_ok 5 q1
    have f4 := fun i => fsF_ok (b := begG g n) h0 (drawF_lt (drawF g 4).2 (by decide : (0 : Int) < 5)).1 q2 i
    refine xss_set (x := .int (begG g n)) C 4 rfl rfl (xe_to (xe_sub (xe_v C 1 rfl rfl rfl) (xe_ixL (ds := ([0, 0, 1, 2] : List Int).map D.int) (xe_lst (ds := [_, _, _, _]) (xa_cons xe_int (xa_cons xe_int (xa_cons xe_int (xa_cons xe_int xa_nil)))) (le_of rfl) rfl) (xn (xe_callH c_L_draw hr (by decide) C 0 rfl 0 rfl rfl rfl (xa_cons xe_int xa_nil) rfl (argc_ds _ [_]) (.mk hok (by decide) (by decide)) (drawF_cells _ _))) rfl (drawn_at [0, 0, 1, 2] (by decide) rfl))) rfl) ?_ (lt_of rfl)
    refine xss_set C 5 rfl rfl (xn (xe_callH c_L_draw hr (by decide) C 0 rfl 0 rfl rfl rfl (xa_cons xe_int xa_nil) rfl (argc_ds _ [_]) (.mk q1 (by decide) (by decide)) (drawF_cells _ _))) ?_ (lt_of rfl)
    refine xss_setL C 6 rfl rfl (xe_lst (ds := []) xa_nil (le_of rfl) rfl) rfl (fun lf => ?_) (lt_of rfl)
    refine xss_for C (xi_r (n := n) C 1 rfl (xe_v C 1 rfl rfl rfl) (by omega)) (fun i δ => ∃ x7, δ = [some (.hd p c (fsF (begG g n) m (drawF (drawF g 4).2 5).1 (g1G g) i).2.2), some (.im (.int (n : Nat))), some (.im (.int m)), some (.im (.int s)), some (.im (.int (begG g n))), some (.im (.int (fsF (begG g n) m (drawF (drawF g 4).2 5).1 (g1G g) i).2.1)), some (.ml lf ((fsF (begG g n) m (drawF (drawF g 4).2 5).1 (g1G g) i).1.map optD)), x7, none, none]) _ ⟨none, rfl⟩ (fun i d δ hd hI => ?_) (fun δ z => z) (fun δ hI => ?_)
    · obtain ⟨x7, rfl⟩ := hI
      obtain ⟨x, hx, rfl⟩ := natsD_of hd
      obtain ⟨hin, rfl⟩ := range_at hx
      obtain ⟨a1, a2, a3, _⟩ := f4 x
      refine ⟨_, _, (xg_n C 7 rfl rfl (lt_of rfl)), ?_⟩
      by_cases q : ((x : Nat) : Int) < begG g n
      · have e : fsF (begG g n) m (drawF (drawF g 4).2 5).1 (g1G g) (x + 1) = _ := if_pos q
        rw [e]
        refine xss_app C 6 rfl rfl rfl (xe_if (xt_t (xt_lt (xe_v C 7 rfl rfl rfl) (xe_v C 4 rfl rfl rfl)) (decide_eq_true q)) (fun _ => (xe_v C 5 rfl rfl rfl)) (by intro z; cases z)) rfl rfl (by rw [List.length_map, show (fsF (begG g n) m (drawF (drawF g 4).2 5).1 (g1G g) x).1.length = x from a3]; omega) ?_
        refine xss_set C 5 rfl rfl (xe_add (xe_v C 5 rfl rfl rfl) (xe_if (xt_t (xt_lt (xe_v C 7 rfl rfl rfl) (xe_v C 4 rfl rfl rfl)) (decide_eq_true q)) (fun _ => (xe_add xe_int (xn (xe_callH c_L_draw hr (by decide) C 0 rfl 0 rfl rfl rfl (xa_cons (xe_v C 2 rfl rfl rfl) xa_nil) rfl (argc_ds _ [_]) (.mk a1 h0 h1) (drawF_cells _ _))))) (by intro z; cases z))) (xss_nil ⟨some (.im (.int (x : Nat))), ?_⟩) (lt_of rfl)
        rw [List.map_append]
        rfl
      · have e : fsF (begG g n) m (drawF (drawF g 4).2 5).1 (g1G g) (x + 1) = _ := if_neg q
        rw [e]
        refine xss_app C 6 rfl rfl rfl (xe_if (xt_f (xt_lt (xe_v C 7 rfl rfl rfl) (xe_v C 4 rfl rfl rfl)) (decide_eq_false q)) (by intro z; cases z) (fun _ => xe_non)) rfl rfl (by rw [List.length_map, show (fsF (begG g n) m (drawF (drawF g 4).2 5).1 (g1G g) x).1.length = x from a3]; omega) ?_
        refine xss_set C 5 rfl rfl (xe_add (xe_v C 5 rfl rfl rfl) (xe_if (xt_f (xt_lt (xe_v C 7 rfl rfl rfl) (xe_v C 4 rfl rfl rfl)) (decide_eq_false q)) (by intro z; cases z) (fun _ => xe_int))) (xss_nil ⟨some (.im (.int (x : Nat))), ?_⟩) (lt_of rfl)
        rw [List.map_append]
        rfl
    · obtain ⟨x7, rfl⟩ := hI
      rw [natsD_len, List.length_range]
      obtain ⟨a1, a2, a3, _⟩ := fsG_ok (n := n) hok h0
      obtain ⟨w1, w2, w3⟩ := wsG_ok (n := n) (s := s) hok h0
      obtain ⟨n1, n2, n3, n4⟩ := ndF_ok h0 w2 n
      refine xss_set (x := .lst (encW (wsG g n m s).1)) (δ1 := [some (.hd p c (wsG g n m s).2), some (.im (.int (n : Nat))), some (.im (.int m)), some (.im (.int s)), some (.im (.int (begG g n))), some (.im (.int (hG g n m))), some (.ml lf ((fsG g n m).1.map optD)), x7, none, none]) C 8 rfl rfl (xn (xe_if (p := decide (0 < s)) (xt_gt (xe_v C 3 rfl rfl rfl) xe_int) (fun hb => ?_) (fun hb => ?_))) ?_ (lt_of rfl)
      · have e : wsG g n m s = waitsG (fsG g n m).2.2 n s := if_pos (of_decide_eq_true hb)
        rw [e]
        exact xe_callH c_L_waits hr (by decide) C 2 rfl 0 rfl rfl rfl (xa_cons (xe_v C 1 rfl rfl rfl) (xa_cons (xe_v C 3 rfl rfl rfl) xa_nil)) rfl (argc_ds _ [_, _]) (.mk a1 hn (of_decide_eq_true hb) hs1) (waitsG_ok a1).2.2
      · have e : wsG g n m s = (List.replicate n [], (fsG g n m).2.2) := if_neg (of_decide_eq_false hb)
        rw [e]
        have erep : List.replicate n (D.tup []) = encW (List.replicate n []) := by simp [encW, natsD]
        exact xn_to (xe_rep (k := n) (x := .tup []) (xe_lst (ds := [_]) (xa_cons (xe_tup (ds := []) xa_nil (le_of rfl)) xa_nil) (le_of rfl) rfl) (xe_v C 1 rfl rfl rfl) rfl (by omega) rfl) (by rw [erep])
      · refine xss_set (x := .lst ((ndG g n m s).1.map K06.D.int)) C 9 rfl rfl (xn (xe_lc (own := [("_law_deed", 7)]) (accF := (ndG g n m s).1.map K06.D.int) (δF := [some (.hd p c (ndG g n m s).2), some (.im (.int (n : Nat))), some (.im (.int m)), some (.im (.int s)), some (.im (.int (begG g n))), some (.im (.int (hG g n m))), some (.ml lf ((fsG g n m).1.map optD)), none, some (.im (.lst (encW (wsG g n m s).1))), none]) C [0, 2, 7] [7] ["_law_draw"]
          (xi_r C 1 rfl (xe_v C 1 rfl rfl rfl) (by omega)) (by decide +kernel) (by decide +kernel) (LFs_nats _) (by rw [natsD_len, List.length_range]; omega)
          (fun i acc δ => acc = (ndF m (wsG g n m s).2 i).1.map K06.D.int ∧ δ = [some (.hd p c (ndF m (wsG g n m s).2 i).2), some (.im (.int (n : Nat))), some (.im (.int m)), some (.im (.int s)), some (.im (.int (begG g n))), some (.im (.int (hG g n m))), some (.ml lf ((fsG g n m).1.map optD)), none, some (.im (.lst (encW (wsG g n m s).1))), none]) ⟨rfl, rfl⟩ (fun i d acc δ hd hI => ?_) (fun acc δ hI => by rw [natsD_len, List.length_range] at hI; exact hI) (LFs_ints _))) ?_ (lt_of rfl) (hs := cell_swapsL (by rw [C.hsc]; rfl) (by rw [C.hsc]; rfl))
        · obtain ⟨rfl, rfl⟩ := hI
          obtain ⟨b1, b2, _⟩ := ndF_ok h0 w2 i
          refine ⟨_, _, true, _, rfl, fun Y hB D => (xg_n D 7 rfl rfl (lt_of rfl)), fun Y hB D => xts_nil, fun _ => ⟨_, _, fun Y hB D => (xn (xe_callH (CalP.blk c_L_draw hB) (Room.blk hr hB) (by decide) D 0 rfl 0 rfl rfl rfl (xa_cons (xe_v D 2 rfl rfl rfl) xa_nil) rfl (argc_ds _ [_]) (.mk b1 h0 h1) (drawF_cells _ _))), rfl, ?_, rfl⟩, (by intro z; cases z)⟩
          show _ = ((ndF m (wsG g n m s).2 i).1 ++ [_]).map D.int
          rw [List.map_append]
          rfl
        · have hlf : LFs (encDs (dsG g n m s)) = true := lf_encs _
          refine xss_ret (x := .tup [.int (hG g n m), .tup (encDs (dsG g n m s))]) (xe_tup (ds := [_, _]) (xa_cons (xe_v C 5 rfl rfl rfl) (xa_cons (xe_tuple C 3 rfl (xe_lcP (own := [("_law_deed", 7)]) (fun i => some (Deed.enc ⟨(fsG g n m).1.getD i none, (ndG g n m s).1.getD i 0, (wsG g n m s).1.getD i []⟩)) C [6, 7, 8, 9] [7] [] (xi_r C 1 rfl (xe_v C 1 rfl rfl rfl) (by omega)) (by decide +kernel) (by decide +kernel) (LFs_nats _) (by rw [natsD_len, List.length_range]; omega) (fun i d hd => ?_) ?_) rfl) xa_nil)) (le_of rfl)) ⟨rfl, rfl⟩ (by simp only [LF, LFs, hlf, Bool.and_true])
          · obtain ⟨x, hx, rfl⟩ := natsD_of hd
            obtain ⟨hin, rfl⟩ := range_at hx
            have i1 : L2.atI ((fsG g n m).1.map optD) ((x : Nat) : Int) = some (optD ((fsG g n m).1.getD x none)) := atI_nat (by rw [List.getElem?_map, getD_at (by rw [a3]; exact hin) none]; rfl)
            have i2 : L2.atI ((ndG g n m s).1.map K06.D.int) ((x : Nat) : Int) = some (.int ((ndG g n m s).1.getD x 0)) := atI_nat (by rw [List.getElem?_map, getD_at (by rw [show (ndG g n m s).1.length = n from n3]; exact hin) 0]; rfl)
            have i3 : L2.atI (encW (wsG g n m s).1) ((x : Nat) : Int) = some (.tup (natsD ((wsG g n m s).1.getD x []))) := atI_nat (encW_get (getD_at (by rw [w1.len]; exact hin) []))
            exact ⟨_, _, true, rfl, fun Y hB D => (xg_n D 7 rfl rfl (lt_of rfl)), fun Y hB D => xts_nil, fun _ => ⟨_, rfl, fun Y hB D => (xe_tup (ds := [_, _, _]) (xa_cons (xe_ixL (xe_m D 6 rfl rfl rfl rfl) (xe_v D 7 rfl rfl rfl) ⟨6, rfl⟩ i1) (xa_cons (xe_ixL (xe_v D 9 rfl rfl rfl) (xe_v D 7 rfl rfl rfl) rfl i2) (xa_cons (xe_ixL (xe_v D 8 rfl rfl rfl) (xe_v D 7 rfl rfl rfl) rfl i3) xa_nil))) (le_of rfl)), lf_enc _⟩, (by intro z; cases z), rfl⟩
          · rw [natsD_len, List.length_range, fm_some]
            unfold encDs dsG mkDs
            rw [List.map_map]
            rfl
theorem c_L_deeds (D : Df K mg "_law_deeds" s_L_deeds) (hg : Glb mg) (c_L_draw : CalP P w K mg base 1 "_law_draw" (spH CS R_L_draw)) (c_L_waits : CalP P w K mg base 2 "_law_waits" (spH CS R_L_waits)) : CalP P w K mg base 3 "_law_deeds" (spH CS R_L_deeds) :=
  mkH D hg sc_L_deeds ok_L_deeds (by intro _ _ _ _ h; cases h <;> rfl) (fun X hX C hr p c g ds r g' hR hc => b_L_deeds C hr (hX.cal c_L_draw) (hX.cal c_L_waits) hR hc) (fun f fd F => F.binds fun _ _ _ _ _ _ us hl => match us, hl with | [_, _, _, _], _ => rfl)
end K06
/-! K14: max, min of two; two names at once; tuples of one's own lists given out. -/
namespace K06
open PySem PySem.Spec L2
section
variable {X : Cx} {CS : Addr} {sc : Scope} {N : List Str} {vs ls : List Nat} {gs : List Str} {a b e f : Expr} {es : List Expr} {rest : List Stmt} {P' : Post} {δ δ1 δ2 δ3 : Sto} {r : Res} {rs : List Res} {x y : D} {ds : List D} {nm : Str} {l : Addr} {k : Nat} {i j : Int} {pos p2 p3 p4 pos' ap cp : Pos}
theorem xe_max2 (C : Ctx X sc N vs ls gs) (k : Nat) (hk : gs[k]? = some "max") (ha : XA X CS [a, b] δ [.d (.int i), .d (.int j)] δ1) (hs : starEach [a, b] X.env = (false, eval a X.env) :: starEach [b] X.env := by rfl) (hpl : (backTo pos (starEach [b] X.env)).any (·.1) = false := by rfl) :
    XE X CS (.Call (.Name "max" p2) [a, b] [] pos) δ (.d (.int (max i j))) δ1 :=
  xe_callB C k hk (call_max2 C.calm) C.glb.max (by decide +kernel) ha (fun A B σ H0 H ws Q s t q kk => by
    obtain ⟨v, u, e, q1, q2⟩ := RRs.two q
    have e1 : v = .int i := q1
    have e2 : u = .int j := q2
    subst e1; subst e2
    refine ⟨i, j, e, ?_⟩
    have : (if j > i then j else i) = max i j := by
      by_cases h : i < j
      · rw [if_pos h, Int.max_eq_right (Int.le_of_lt h)]
      · rw [if_neg h, Int.max_eq_left (Int.not_lt.mp h)]
    rw [this]
    exact kk _ H (Same.refl H) rfl) (he := hs) (hpl := hpl)
theorem xe_min2 (C : Ctx X sc N vs ls gs) (k : Nat) (hk : gs[k]? = some "min") (ha : XA X CS [a, b] δ [.d (.int i), .d (.int j)] δ1) (hs : starEach [a, b] X.env = (false, eval a X.env) :: starEach [b] X.env := by rfl) (hpl : (backTo pos (starEach [b] X.env)).any (·.1) = false := by rfl) :
    XE X CS (.Call (.Name "min" p2) [a, b] [] pos) δ (.d (.int (min i j))) δ1 :=
  xe_callB C k hk (call_min2 C.calm) C.glb.min (by decide +kernel) ha (fun A B σ H0 H ws Q s t q kk => by
    obtain ⟨v, u, e, q1, q2⟩ := RRs.two q
    have e1 : v = .int i := q1
    have e2 : u = .int j := q2
    subst e1; subst e2
    refine ⟨i, j, e, ?_⟩
    have : (if j < i then j else i) = min i j := by
      by_cases h : j < i
      · rw [if_pos h, Int.min_eq_right (Int.le_of_lt h)]
      · rw [if_neg h, Int.min_eq_left (Int.not_lt.mp h)]
    rw [this]
    exact kk _ H (Same.refl H) rfl) (he := hs) (hpl := hpl)
/-- both names are stored from the right -/
def Swp (nx ny : Str) (px py pt : Pos) (kt : Nat) (a b : Expr) (k2 : Nat) (pt2 : Pos) : Prop := ∀ env : Env, env.blockKind = .function → env.kindOf nx = some .local → env.kindOf ny = some .local → swappedStores [.Tuple [.Name nx px, .Name ny py] kt pt] (.Tuple [a, b] k2 pt2) env = pure (some [nx, ny])
theorem Swp.at {nx ny : Str} {px py pt : Pos} {kt k2 : Nat} {pt2 : Pos} (h : Swp nx ny px py pt kt a b k2 pt2) (C : Ctx X sc N vs ls gs) (hk : sc.kind = .function) (hx : sc.names.lookup nx = some .local) (hy : sc.names.lookup ny = some .local) : swappedStores [.Tuple [.Name nx px, .Name ny py] kt pt] (.Tuple [a, b] k2 pt2) X.env = pure (some [nx, ny]) := by
  have kx : X.env.kindOf nx = some .local := by
    show X.env.scope.names.lookup nx = _
    rw [C.hsc]
    exact hx
  have ky : X.env.kindOf ny = some .local := by
    show X.env.scope.names.lookup ny = _
    rw [C.hsc]
    exact hy
  have hb : X.env.blockKind = .function := by unfold Env.blockKind; rw [C.hsc, hk]; rfl
  exact h X.env hb kx ky
/-- x, y = a, b on one line: two names, two values -/
theorem xss_par {nx ny : Str} {px py pt : Pos} {kt k2 : Nat} {pt2 : Pos} (C : Ctx X sc N vs ls gs) (i j : Nat) (hi : N[i]? = some nx) (hj : N[j]? = some ny) (hij : i ≠ j) (hki : sc.names.lookup nx = some .local) (hkj : sc.names.lookup ny = some .local) (hkd : sc.kind = .function) (hw : Swp nx ny px py pt kt a b k2 pt2)
    (ha : XA X CS [a, b] δ [.d x, .d y] δ1) (h2 : XSs X CS rest ((δ1.set i (some (.im x))).set j (some (.im y))) P') (hlen1 : i < δ1.length) (hlen2 : j < δ1.length)
    (hs : swapsWithSole [.Tuple [.Name nx px, .Name ny py] kt pt] (.Tuple [a, b] k2 pt2) pos.line X.env = pure false := by rfl) : XSs X CS (.Assign [.Tuple [.Name nx px, .Name ny py] kt pt] (.Tuple [a, b] k2 pt2) pos :: rest) δ P' :=
  pss_weak (pss_cons (ps_par (i := i) (j := j) C.calm (by rw [C.hN]; exact C.nd) (by rw [C.hN]; exact hi) (by rw [C.hN]; exact hj) hij (by rw [C.hsc]; exact hki) (by rw [C.hsc]; exact hkj) ha (hw.at C hkd hki hkj) hs) h2) fun D σ H ⟨A, B, s, kk⟩ => ⟨A, B, s, fun ws H1 e1 s1 q1 => by
    obtain ⟨v, u, rfl, q2, q3⟩ := RRs.two q1
    refine ⟨v, u, rfl, tS_step (P := P') e1 ?_ kk⟩
    exact (s1.set hlen1 q2).set (by simpa using hlen2) q3⟩
/-- x, y = [], [] : two lists of one's own -/
theorem xss_parL {nx ny : Str} {px py pt pa pb : Pos} {kt k2 : Nat} {pt2 : Pos} (C : Ctx X sc N vs ls gs) (i j : Nat) (hi : N[i]? = some nx) (hj : N[j]? = some ny) (hij : i ≠ j) (hki : sc.names.lookup nx = some .local) (hkj : sc.names.lookup ny = some .local) (hkd : sc.kind = .function) (hw : Swp nx ny px py pt kt (.List [] pa) (.List [] pb) k2 pt2)
    (h2 : ∀ l1 l2, XSs X CS rest ((δ.set i (some (.ml l1 []))).set j (some (.ml l2 []))) P') (hlen1 : i < δ.length) (hlen2 : j < δ.length) (hs : swapsWithSole [.Tuple [.Name nx px, .Name ny py] kt pt] (.Tuple [.List [] pa, .List [] pb] k2 pt2) pos.line X.env = pure false := by rfl) :
    XSs X CS (.Assign [.Tuple [.Name nx px, .Name ny py] kt pt] (.Tuple [.List [] pa, .List [] pb] k2 pt2) pos :: rest) δ P' :=
  pss_weak (pss_cons (ps_par (i := i) (j := j) C.calm (by rw [C.hN]; exact C.nd) (by rw [C.hN]; exact hi) (by rw [C.hN]; exact hj) hij (by rw [C.hsc]; exact hki) (by rw [C.hsc]; exact hkj) (pa_cons (pe_lst pa_nil) (pa_cons (pe_lst pa_nil) pa_nil rfl) rfl) (hw.at C hkd hki hkj) hs) (pss_ex (ι := Addr × Addr) (p := fun _ => True) fun q _ => h2 q.1 q.2)) fun D σ H ⟨A, B, s, kk⟩ => by
    refine ⟨by decide, fun l1 h1 => ⟨by decide, fun l2 h2' => ⟨_, _, rfl, (l1, l2), trivial, ?_⟩⟩⟩
    have sm1 : Same H (upd H l1 (.lst [])) := same_new h1
    obtain ⟨x1, x2⟩ := SR.bind (t := .ml l1 []) s (s.same sm1) (Same.ext sm1) Cng.refl h1 (by rw [upd_same]; trivial) hlen1 rfl ⟨rfl, .inr rfl, rfl, [], upd_same, rfl⟩
    have sm2 : Same (upd H l1 (.lst [])) (upd (upd H l1 (.lst [])) l2 (.lst [])) := same_new h2'
    obtain ⟨y1, y2⟩ := SR.bind (t := .ml l2 []) x2 (x2.same sm2) (Same.ext sm2) Cng.refl h2' (by rw [upd_same]; trivial) (by simpa using hlen2) rfl ⟨rfl, .inr rfl, rfl, [], upd_same, rfl⟩
    exact tS_step (P := P') (x1.trans y1) y2 kk
/-- return l1, l2, x : lists of one's own -/
theorem xss_rett {l1 l2 : Addr} {k1 k2 kk2 : Nat} {ds1 ds2 : List D} (h : XA X CS es δ [.m l1, .m l2, .d x] δ1) (hk1 : δ1[k1]? = some (some (.ml l1 ds1))) (hk2 : δ1[k2]? = some (some (.ml l2 ds2))) (hp : P'.rt δ1 (.tup [.lst ds1, .lst ds2, x])) (f : LF x = true) : XSs X CS (.Return (some (.Tuple es kk2 pos')) pos :: rest) δ P' :=
  pss_weak (pss_cons (ps_ret (pe_tup h)) pss_never) fun D σ H ⟨A, B, s, kk⟩ => ⟨A, B, s, fun ws H1 e1 s1 q1 => by
    obtain ⟨v1, v2, v3, rfl, q2, q3, q4⟩ := RRs.three q1
    refine ⟨show (3 : Nat) ≤ sizeLine by decide, fun p hp' => ?_⟩
    have sm : Same H1 (upd H1 p (.tup [v1, v2, v3])) := same_new hp'
    obtain ⟨w1, _, ew1, hA1, lf1, us1, h11, h12⟩ := s1.sl k1 _ hk1
    obtain ⟨w2, _, ew2, hA2, lf2, us2, h21, h22⟩ := s1.sl k2 _ hk2
    refine kk.2.1 σ _ A δ1 _ _ hp (e1.trans (Same.ext sm)) (s1.same sm) ⟨p, _, rfl, upd_same, _, _, rfl, ⟨l1, us1, q2, fun z => z.2 hA1, sm _ _ h11, Reps.lf _ _ lf1 (Reps.stay (Same.stay sm) _ _ h12)⟩, _, _, rfl, ⟨l2, us2, q3, fun z => z.2 hA2, sm _ _ h21, Reps.lf _ _ lf2 (Reps.stay (Same.stay sm) _ _ h22)⟩, _, _, rfl, Rep.lf _ _ f (Rep.stay (Same.stay sm) _ _ q4), rfl⟩⟩
end
end K06
/-! M9: parts, wishes drawn; plain Lean. -/
namespace K06
def maxL : List Int → Int
  | [] => 0
  | a :: l => l.foldl max a
theorem foldl_max : ∀ (l : List Int) (a : Int), (l.foldl max a = a ∨ l.foldl max a ∈ l) ∧ a ≤ l.foldl max a ∧ ∀ y ∈ l, y ≤ l.foldl max a
  | [], a => ⟨.inl rfl, Int.le_refl _, by simp⟩
  | b :: l, a => by
    obtain ⟨h1, h2, h3⟩ := foldl_max l (max a b)
    rw [List.foldl_cons]
    have ha : a ≤ max a b := Int.le_max_left _ _
    have hb : b ≤ max a b := Int.le_max_right _ _
    refine ⟨?_, Int.le_trans ha h2, fun y hy => ?_⟩
    · rcases h1 with z | z
      · rw [z]
        rcases Int.le_total a b with y | y
        · rw [Int.max_eq_right y]; exact .inr (by simp)
        · rw [Int.max_eq_left y]; exact .inl rfl
      · exact .inr (by simp [z])
    · rcases List.mem_cons.mp hy with z | z
      · rw [z]; exact Int.le_trans hb h2
      · exact h3 y z
theorem maxL_ok {a : Int} {l : List Int} : maxL (a :: l) ∈ a :: l ∧ ∀ y ∈ a :: l, y ≤ maxL (a :: l) := by
  obtain ⟨h1, h2, h3⟩ := foldl_max l a
  refine ⟨?_, fun y hy => ?_⟩
  · rcases h1 with z | z
    · show l.foldl max a ∈ _
      rw [z]; simp
    · exact List.mem_cons_of_mem _ z
  · rcases List.mem_cons.mp hy with z | z
    · rw [z]; exact h2
    · exact h3 y z
theorem needSum_le {b h : Int} {dl : List Deed} (o : Ok b h dl) : ∀ (l : List Nat), 0 ≤ needSum dl l ∧ needSum dl l ≤ l.length * b
  | [] => by simp [needSum]
  | a :: l => by
    obtain ⟨h1, h2⟩ := needSum_le o l
    have hb : 0 ≤ b := Int.le_trans o.h0 o.hb
    have e : needSum dl (a :: l) = needAt dl a + needSum dl l := by simp [needSum]
    have : 0 ≤ needAt dl a ∧ needAt dl a ≤ b := by
      unfold needAt
      cases q : dl[a]? with
      | none => exact ⟨by simp, by simpa using hb⟩
      | some d => exact o.need d (List.mem_of_getElem? q)
    rw [e, List.length_cons]
    have : ((l.length + 1 : Nat) : Int) * b = l.length * b + b := by
      rw [show ((l.length + 1 : Nat) : Int) = (l.length : Int) + 1 by omega, Int.add_mul, Int.one_mul]
    omega
theorem load_le {b h : Int} {dl : List Deed} (o : Ok b h dl) {i : Nat} (hi : i < dl.length) : 0 ≤ load h dl i ∧ load h dl i ≤ 31 * b := by
  have hb : 0 ≤ b := Int.le_trans o.h0 o.hb
  have hg := getD_some hi
  have hm := List.mem_of_getElem? hg
  cases q : (dl.getD i dflt).first with
  | none =>
    rw [load_none hg q]
    have := o.need _ hm
    omega
  | some f =>
    rw [load_some hg q]
    have h1 := o.fst _ hm f q
    obtain ⟨h2, h3⟩ := needSum_le o (clo (wts dl) (List.range (i + 1)))
    have h4 : (clo (wts dl) (List.range (i + 1))).length ≤ 30 := Nat.le_trans (clo_len _ _) (by rw [wts_len]; exact o.len)
    have h5 : ((clo (wts dl) (List.range (i + 1))).length : Int) * b ≤ 30 * b := Int.mul_le_mul_of_nonneg_right (by omega) hb
    have := o.hb
    omega
theorem used_le {b h : Int} {dl : List Deed} (o : Ok b h dl) : 0 ≤ used0 h dl ∧ used0 h dl ≤ b := by
  have h0 := o.h0
  have hb := o.hb
  rcases used_of o with ⟨_, e⟩ | ⟨m, m1, _, e, _⟩
  · rw [e]; omega
  · obtain ⟨d, hd, q⟩ := List.mem_filterMap.mp m1
    have := o.fst d hd m q
    rw [e]
    omega
/-- the first load is at least what is in use -/
theorem used_load {b h : Int} {dl : List Deed} (o : Ok b h dl) : used0 h dl = 0 ∨ ∃ i, i < dl.length ∧ used0 h dl ≤ load h dl i := by
  cases dl with
  | nil => exact .inl rfl
  | cons d dl =>
    cases q : d.first with
    | none => exact .inl (by simp [used0, q])
    | some f =>
      refine .inr ⟨0, by simp, ?_⟩
      rw [load_some (d := d) rfl q]
      have := (needSum_le o (clo (wts (d :: dl)) (List.range (0 + 1)))).1
      have e : used0 h (d :: dl) = h - f := by simp [used0, q]
      omega
noncomputable def mxG (g : Hand) (n : Nat) (m s : Int) : Int := maxL (1 :: used0 (hG g n m) (dsG g n m s) :: loads (hG g n m) (dsG g n m s))
def offG (g : Hand) : Int := ([0, 0, 1, 3, -1, -2] : List Int).getD (drawF g 6).1.toNat 0
noncomputable def cG (g : Hand) (n : Nat) (m s : Int) : Int := max (max 1 (used0 (hG g n m) (dsG g n m s))) (mxG g n m s + offG (ndG g n m s).2)
theorem offG_le (g : Hand) : offG g ≤ 3 := by
  unfold offG
  generalize (drawF g 6).1.toNat = k
  match k with
  | 0 => decide
  | 1 => decide
  | 2 => decide
  | 3 => decide
  | 4 => decide
  | 5 => decide
  | k + 6 => simp
theorem cG_ok {g : Hand} {n : Nat} {m s b : Int} (o : Ok b (hG g n m) (dsG g n m s)) : 1 ≤ cG g n m s ∧ used0 (hG g n m) (dsG g n m s) ≤ cG g n m s ∧ cG g n m s ≤ 31 * b + 4 := by
  have hb : 0 ≤ b := Int.le_trans o.h0 o.hb
  have h1 := Int.le_max_left (max 1 (used0 (hG g n m) (dsG g n m s))) (mxG g n m s + offG (ndG g n m s).2)
  have h2 := Int.le_max_left 1 (used0 (hG g n m) (dsG g n m s))
  have h3 := Int.le_max_right 1 (used0 (hG g n m) (dsG g n m s))
  have hu := used_le o
  have hoff := offG_le (ndG g n m s).2
  have hmx : mxG g n m s ≤ 31 * b + 1 := by
    have hm := (maxL_ok (a := 1) (l := used0 (hG g n m) (dsG g n m s) :: loads (hG g n m) (dsG g n m s))).1
    have : ∀ y ∈ (1 : Int) :: used0 (hG g n m) (dsG g n m s) :: loads (hG g n m) (dsG g n m s), y ≤ 31 * b + 1 := fun y hy => by
      rcases List.mem_cons.mp hy with z | z
      · omega
      · rcases List.mem_cons.mp z with z | z
        · omega
        · obtain ⟨i, hi, rfl⟩ := List.mem_map.mp z
          have := (load_le o (List.mem_range.mp hi)).2
          omega
    exact this _ hm
  unfold cG at *
  refine ⟨by omega, by omega, ?_⟩
  exact Int.max_le.mpr ⟨Int.max_le.mpr ⟨by omega, by omega⟩, by omega⟩

/-! ### wishes -/
noncomputable def fitL (dl : List Deed) (d : Nat) : List Nat := (List.range dl.length).filter fun o => !decide (o ∈ clo (wts dl) [d]) && !decide (d ∈ clo (wts dl) [o])
/-- a wish of the deed d drawn, r0 being the kind -/
noncomputable def wishR (r0 : Int) (wt : Bool) (dl : List Deed) (d : Nat) (g1 : Hand) : Wish × Hand :=
  if (r0 = 1 ∧ wt = true) ∧ 0 < (fitL dl d).length then (.wait d ((fitL dl d).getD (drawF g1 (fitL dl d).length).1.toNat 0), (drawF g1 (fitL dl d).length).2)
  else if (drawF (drawF g1 5).2 2).1 = 0 then (.row d (min (1 + (drawF g1 5).1) (max 1 (dl.getD d dflt).need)) (max 0 ((dl.getD d dflt).need - min (1 + (drawF g1 5).1) (max 1 (dl.getD d dflt).need))), (drawF (drawF g1 5).2 2).2)
    else (.row d (1 + (drawF g1 5).1) (drawF (drawF (drawF g1 5).2 2).2 (5 + (dl.getD d dflt).need)).1, (drawF (drawF (drawF g1 5).2 2).2 (5 + (dl.getD d dflt).need)).2)
/-- a wish drawn, and the hand -/
noncomputable def wishF (g : Hand) (dl : List Deed) (wt : Bool) : Wish × Hand :=
  let r0 := drawF g 4
  if dl.length = 0 ∨ r0.1 = 0 then
    let so : List Nat × Hand := if wt = true then selF 5 r0.2 (List.range dl.length) dl.length else ([], r0.2)
    let r1 := drawF so.2 5
    let r2 := drawF r1.2 5
    (.opn r1.1 r2.1 so.1, r2.2)
  else wishR r0.1 wt dl (drawF r0.2 dl.length).1.toNat (drawF r0.2 dl.length).2
theorem selF_asc {m : Int} {g : Hand} {n : Nat} (h : HOk' g) : Asc (selF m g (List.range n) n).1 n := by
  obtain ⟨_, _, _, s4⟩ := selF_ok (m := m) (l := List.range n) h n
  have sub := s4 (by rw [List.length_range]; exact Nat.le_refl _)
  rw [List.take_of_length_le (by rw [List.length_range]; exact Nat.le_refl _)] at sub
  exact ⟨List.pairwise_lt_range.sublist sub, fun x hx => List.mem_range.mp (sub.subset hx)⟩
theorem wishF_ok {b h : Int} {g : Hand} {dl : List Deed} {wt : Bool} (o : Ok b h dl) (hg : HOk' g) (hl : dl.length < 30) : OkW b dl (wishF g dl wt).1 ∧ HOk' (wishF g dl wt).2 ∧ (wishF g dl wt).2.cells = g.cells := by
  have hb : 0 ≤ b := Int.le_trans o.h0 o.hb
  have k0 := drawF_ok 4 hg
  have c0 := drawF_cells g 4
  unfold wishF
  simp only
  by_cases q : dl.length = 0 ∨ (drawF g 4).1 = 0
  · rw [if_pos q]
    have so : HOk' (if wt = true then selF 5 (drawF g 4).2 (List.range dl.length) dl.length else ([], (drawF g 4).2)).2 ∧ (if wt = true then selF 5 (drawF g 4).2 (List.range dl.length) dl.length else ([], (drawF g 4).2)).2.cells = g.cells ∧ Asc (if wt = true then selF 5 (drawF g 4).2 (List.range dl.length) dl.length else ([], (drawF g 4).2)).1 dl.length := by
      cases wt with
      | true =>
        obtain ⟨s1, s2, _⟩ := selF_ok (m := 5) (l := List.range dl.length) k0 dl.length
        exact ⟨s1, s2.trans c0, selF_asc k0⟩
      | false => exact ⟨k0, c0, List.Pairwise.nil, by simp⟩
    generalize (if wt = true then selF 5 (drawF g 4).2 (List.range dl.length) dl.length else ([], (drawF g 4).2)) = S at so ⊢
    obtain ⟨s1, s2, s3⟩ := so
    have d1 := drawF_lt S.2 (by decide : (0 : Int) < 5)
    have d2 := drawF_lt (drawF S.2 5).2 (by decide : (0 : Int) < 5)
    exact ⟨.opn d1.1 (by omega) d2.1 (by omega) s3 hl, drawF_ok _ (drawF_ok _ s1), (drawF_cells _ _).trans ((drawF_cells _ _).trans s2)⟩
  · rw [if_neg q]
    have hn : (0 : Int) < (dl.length : Int) := by omega
    obtain ⟨e1, e2⟩ := drawF_lt (drawF g 4).2 hn
    have k1 := drawF_ok (dl.length : Int) k0
    have c1 := (drawF_cells (drawF g 4).2 (dl.length : Int)).trans c0
    have hd : (drawF (drawF g 4).2 (dl.length : Int)).1.toNat < dl.length := by omega
    generalize (drawF (drawF g 4).2 (dl.length : Int)).1.toNat = d at hd ⊢
    generalize (drawF (drawF g 4).2 (dl.length : Int)).2 = g1 at k1 c1 ⊢
    unfold wishR
    by_cases q2 : ((drawF g 4).1 = 1 ∧ wt = true) ∧ 0 < (fitL dl d).length
    · rw [if_pos q2]
      obtain ⟨f1, f2⟩ := drawF_lt g1 (show (0 : Int) < ((fitL dl d).length : Int) by omega)
      have hlt : (drawF g1 ((fitL dl d).length : Int)).1.toNat < (fitL dl d).length := by omega
      have hmem : (fitL dl d).getD (drawF g1 ((fitL dl d).length : Int)).1.toNat 0 ∈ fitL dl d := List.mem_of_getElem? (getD_at hlt 0)
      generalize (fitL dl d).getD (drawF g1 ((fitL dl d).length : Int)).1.toNat 0 = p at hmem ⊢
      refine ⟨?_, drawF_ok _ k1, (drawF_cells _ _).trans c1⟩
      obtain ⟨hp, hp2⟩ := List.mem_filter.mp hmem
      have hpn := List.mem_range.mp hp
      simp only [Bool.and_eq_true, Bool.not_eq_true', decide_eq_false_iff_not] at hp2
      have hdl : ∀ y ∈ [d], y < (wts dl).length := by intro y hy; rw [wts_len, List.mem_singleton.mp hy]; exact hd
      have hpl : ∀ y ∈ [p], y < (wts dl).length := by intro y hy; rw [wts_len, List.mem_singleton.mp hy]; exact hpn
      refine .wait hd hpn (fun z => hp2.1 ?_) (fun z => hp2.1 ?_) (fun z => hp2.2 ((mem_clo o.wf hpl d).mpr z))
      · rw [mem_clo o.wf hdl]
        exact .base (by simp [z])
      · rw [mem_clo o.wf hdl]
        exact .step (.base (by simp)) (wts_get (getD_some hd)) z
    · rw [if_neg q2]
      have d1 := drawF_lt g1 (by decide : (0 : Int) < 5)
      have k2 := drawF_ok 5 k1
      have c2 := (drawF_cells g1 5).trans c1
      have k3 := drawF_ok 2 k2
      have c3 := (drawF_cells (drawF g1 5).2 2).trans c2
      have hnd := o.need _ (mem_dl hd)
      generalize hx : (dl.getD d dflt).need = x at hnd ⊢
      by_cases q3 : (drawF (drawF g1 5).2 2).1 = 0
      · rw [if_pos q3]
        refine ⟨.row hd ?_ ?_ (Int.le_max_left _ _) ?_, k3, c3⟩
        · exact Int.le_min.mpr ⟨by omega, Int.le_max_left _ _⟩
        · exact Int.le_trans (Int.min_le_left _ _) (by omega)
        · have : 1 ≤ min (1 + (drawF g1 5).1) (max 1 x) := Int.le_min.mpr ⟨by omega, Int.le_max_left _ _⟩
          exact Int.max_le.mpr ⟨by omega, by omega⟩
      · rw [if_neg q3]
        have d4 := drawF_lt (drawF (drawF g1 5).2 2).2 (show (0 : Int) < 5 + x by omega)
        exact ⟨.row hd (by omega) (by omega) d4.1 (by omega), drawF_ok _ k3, (drawF_cells _ _).trans c3⟩
end K06
/-! D12: parts and wishes drawn. -/
namespace K06
open PySem PySem.Spec L2
variable {P : Program} {w : World} {K : PySem.W.Frag} {mg : Str → Option Value} {base : Heap} {CS : Addr} {X : Cx}
inductive R_L_parts : Hand → List D → D → Hand → Prop
  | mk {g : Hand} {n : Nat} {s : Int} : HOk' g → n ≤ 16 → s < 1073741824 → R_L_parts g [.int (n : Nat), .int 5, .int s] (prt (cG g n 5 s) (hG g n 5) (dsG g n 5 s)) (drawF (ndG g n 5 s).2 6).2
theorem b_L_parts (C : Ctx X (defScope s_L_parts) N_L_parts V_L_parts V_L_parts G_L_parts) (hr : Room 5 X.A) (c_L_deeds : CalX X 3 "_law_deeds" (spH CS R_L_deeds)) (c_L_used : CalX X 1 "_law_used" (spD CS R_L_used)) (c_L_loads : CalX X 4 "_law_loads" (spD CS R_L_loads)) (c_L_draw : CalX X 1 "_law_draw" (spH CS R_L_draw)) {p c : Addr} {g g' : Hand} {ds : List D} {r : D} (hR : R_L_parts g ds r g') (hc : g'.cells = g.cells) :
    XSs X CS (defBody s_L_parts) (startD N_L_parts (.hd p c g :: ds.map Slot.im)) { nx := fun _ => False, rt := fun δ d => d = r ∧ δ[0]? = some (some (.hd p c g')) } := by
  cases hR with
  | @mk n s hok hn hs =>
    obtain ⟨o, k1, k2⟩ := dsG_ok (n := n) (m := 5) (s := s) hok (by decide) (by omega)
    have hlen := o.len
    obtain ⟨mx1, mx2⟩ := maxL_ok (a := 1) (l := used0 (hG g n 5) (dsG g n 5 s) :: loads (hG g n 5) (dsG g n 5 s))
    refine xss_asg (xn (xe_callH c_L_deeds hr (by decide) C 0 rfl 0 rfl rfl rfl (xa_cons (xe_v C 1 rfl rfl rfl) (xa_cons (xe_v C 2 rfl rfl rfl) (xa_cons (xe_v C 3 rfl rfl rfl) xa_nil))) rfl (argc_ds _ [_, _, _]) (.mk hok hn (by decide) (by decide) hs) k2)) (xg_t C (xgs_cons (xg_n C 4 rfl rfl (lt_of rfl)) (xgs_cons (xg_n C 5 rfl rfl (lt_of rfl)) xgs_nil)) rfl) ?_
    refine xss_set (x := .int (mxG g n 5 s + offG (ndG g n 5 s).2)) C 6 rfl rfl (xe_add (xe_max (ns := 1 :: used0 (hG g n 5) (dsG g n 5 s) :: loads (hG g n 5) (dsG g n 5 s)) C 1 rfl (xe_cat (ds := [.int 1, .int (used0 (hG g n 5) (dsG g n 5 s))]) (xe_lst (ds := [_, _]) (xa_cons xe_int (xa_cons (xn (xe_call c_L_used hr (by decide) C 2 rfl (xa_cons (xe_v C 4 rfl rfl rfl) (xa_cons (xe_v C 5 rfl rfl rfl) xa_nil)) (argc_ds _ [_, _]) (.mk o))) xa_nil)) (le_of rfl) rfl) (xe_list C 3 rfl (xn (xe_call c_L_loads hr (by decide) C 4 rfl (xa_cons (xe_v C 4 rfl rfl rfl) (xa_cons (xe_v C 5 rfl rfl rfl) xa_nil)) (argc_ds _ [_, _]) (.mk o))) (.inr rfl) (LFs_ints _)) rfl rfl (by rw [List.length_map, loads_len]; simp; omega) (LFs_ints (1 :: used0 (hG g n 5) (dsG g n 5 s) :: loads (hG g n 5) (dsG g n 5 s)))) rfl mx1 mx2) (xe_ixL (ds := ([0, 0, 1, 3, -1, -2] : List Int).map D.int) (xe_lst (ds := [_, _, _, _, _, _]) (xa_cons xe_int (xa_cons xe_int (xa_cons xe_int (xa_cons xe_int (xa_cons (xe_neg xe_int) (xa_cons (xe_neg xe_int) xa_nil)))))) (le_of rfl) rfl) (xn (xe_callH c_L_draw hr (by decide) C 5 rfl 0 rfl rfl rfl (xa_cons xe_int xa_nil) rfl (argc_ds _ [_]) (.mk k1 (by decide) (by decide)) (drawF_cells _ _))) rfl (drawn_at [0, 0, 1, 3, -1, -2] (by decide) rfl))) ?_ (lt_of rfl)
    exact xss_ret (x := prt (cG g n 5 s) (hG g n 5) (dsG g n 5 s)) (xe_tup (ds := [.int (cG g n 5 s), .int (hG g n 5), .tup (encDs (dsG g n 5 s))]) (xa_cons (xe_max3 C 1 rfl (xa_cons xe_int (xa_cons (xn (xe_call c_L_used hr (by decide) C 2 rfl (xa_cons (xe_v C 4 rfl rfl rfl) (xa_cons (xe_v C 5 rfl rfl rfl) xa_nil)) (argc_ds _ [_, _]) (.mk o))) (xa_cons (xe_v C 6 rfl rfl rfl) xa_nil)))) (xa_cons (xe_v C 4 rfl rfl rfl) (xa_cons (xe_v C 5 rfl rfl rfl) xa_nil))) (le_of rfl)) ⟨rfl, rfl⟩ (lf_prt _ _ _)
theorem c_L_parts (D : Df K mg "_law_parts" s_L_parts) (hg : Glb mg) (c_L_deeds : CalP P w K mg base 3 "_law_deeds" (spH CS R_L_deeds)) (c_L_used : CalP P w K mg base 1 "_law_used" (spD CS R_L_used)) (c_L_loads : CalP P w K mg base 4 "_law_loads" (spD CS R_L_loads)) (c_L_draw : CalP P w K mg base 1 "_law_draw" (spH CS R_L_draw)) : CalP P w K mg base 6 "_law_parts" (spH CS R_L_parts) :=
  mkH D hg sc_L_parts ok_L_parts (by intro _ _ _ _ h; cases h <;> rfl) (fun X hX C hr p c g ds r g' hR hc => b_L_parts C hr (hX.cal c_L_deeds) (hX.cal c_L_used) (hX.cal c_L_loads) (hX.cal c_L_draw) hR hc) (fun f fd F => F.binds fun _ _ _ _ _ _ us hl => match us, hl with | [_, _, _, _], _ => rfl)
inductive R_L_wish : Hand → List D → D → Hand → Prop
  | mk {g : Hand} {b c h : Int} {dl : List Deed} {wt : Bool} : HOk' g → Ok b h dl → dl.length < 30 → b ≤ 1000000 → R_L_wish g [prt c h dl, .int 5, .bl wt] (wishF g dl wt).1.enc (wishF g dl wt).2
theorem b_L_wish (C : Ctx X (defScope s_L_wish) N_L_wish V_L_wish V_L_wish G_L_wish) (hr : Room 2 X.A) (c_L_draw : CalX X 1 "_law_draw" (spH CS R_L_draw)) (c_L_closure : CalX X 1 "_law_closure" (spD CS R_L_closure)) {p c : Addr} {g g' : Hand} {ds : List D} {r : D} (hR : R_L_wish g ds r g') (hc : g'.cells = g.cells) :
    XSs X CS (defBody s_L_wish) (startD N_L_wish (.hd p c g :: ds.map Slot.im)) { nx := fun _ => False, rt := fun δ d => d = r ∧ δ[0]? = some (some (.hd p c g')) } := by
  cases hR with
  | @mk b c' h dl wt hok o hl hb =>
    have k0 := drawF_ok 4 hok
    refine xss_asg (xe_v C 1 rfl rfl rfl) (xg_t C (xgs_cons (xg_n C 4 rfl rfl (lt_of rfl)) (xgs_cons (xg_n C 5 rfl rfl (lt_of rfl)) (xgs_cons (xg_n C 6 rfl rfl (lt_of rfl)) xgs_nil))) rfl) ?_
    refine xss_set (x := .int (dl.length : Nat)) C 7 rfl rfl (xe_to (xe_len C 0 rfl (xe_v C 6 rfl rfl rfl) (.inr rfl)) (by rw [encDs_len])) ?_ (lt_of rfl)
    refine xss_set C 8 rfl rfl (xn (xe_callH c_L_draw hr (by decide) C 1 rfl 0 rfl rfl rfl (xa_cons xe_int xa_nil) rfl (argc_ds _ [_]) (.mk hok (by decide) (by decide)) (drawF_cells _ _))) ?_ (lt_of rfl)
    by_cases q : dl.length = 0 ∨ (drawF g 4).1 = 0
    · have hq : (decide (((dl.length : Nat) : Int) = 0) || decide ((drawF g 4).1 = 0)) = true := by
        rw [Bool.or_eq_true, decide_eq_true_iff, decide_eq_true_iff]
        omega
      refine xss_if0 (xt_t (xw (xw_or2 (xt_eq (xe_v C 7 rfl rfl rfl) xe_int opd_eqI) (fun _ => (xt_eq (xe_v C 8 rfl rfl rfl) xe_int opd_eqI)))) hq) (fun _ => ?_) (by intro z; cases z)
      cases wt with
      | true =>
        have e : wishF g dl true = (.opn (drawF (selF 5 (drawF g 4).2 (List.range dl.length) dl.length).2 5).1 (drawF (drawF (selF 5 (drawF g 4).2 (List.range dl.length) dl.length).2 5).2 5).1 (selF 5 (drawF g 4).2 (List.range dl.length) dl.length).1, (drawF (drawF (selF 5 (drawF g 4).2 (List.range dl.length) dl.length).2 5).2 5).2) := by
          unfold wishF
          simp only
          rw [if_pos q]
          rfl
        rw [e]
        have sl := fun j => selF_ok (m := 5) (l := List.range dl.length) k0 j
        refine xss_set (x := .tup (natsD (selF 5 (drawF g 4).2 (List.range dl.length) dl.length).1)) C 9 rfl rfl (xe_tuple C 2 rfl (xe_lc (own := [("_law_deed", 10)]) (accF := natsD (selF 5 (drawF g 4).2 (List.range dl.length) dl.length).1) (δF := [some (.hd p c (selF 5 (drawF g 4).2 (List.range dl.length) dl.length).2), some (.im (prt c' h dl)), some (.im (.int 5)), some (.im (.bl true)), some (.im (.int c')), some (.im (.int h)), some (.im (.tup (encDs dl))), some (.im (.int (dl.length : Nat))), some (.im (.int (drawF g 4).1)), none, none, none, none, none, none]) C [0, 3, 10] [10] ["_law_draw"] (xi_r C 3 rfl (xe_v C 7 rfl rfl rfl) (by omega)) (by decide +kernel) (by decide +kernel) (LFs_nats _) (by rw [natsD_len, List.length_range]; omega)
          (fun j acc δ => acc = natsD (selF 5 (drawF g 4).2 (List.range dl.length) j).1 ∧ δ = [some (.hd p c (selF 5 (drawF g 4).2 (List.range dl.length) j).2), some (.im (prt c' h dl)), some (.im (.int 5)), some (.im (.bl true)), some (.im (.int c')), some (.im (.int h)), some (.im (.tup (encDs dl))), some (.im (.int (dl.length : Nat))), some (.im (.int (drawF g 4).1)), none, none, none, none, none, none]) ⟨rfl, rfl⟩ (fun j d acc δ hd hI => ?_) (fun acc δ hI => by rw [natsD_len, List.length_range] at hI; exact hI) (LFs_nats _)) rfl) ?_ (lt_of rfl)
        · obtain ⟨rfl, rfl⟩ := hI
          obtain ⟨y, hy, rfl⟩ := natsD_of hd
          obtain ⟨s1, s2, s3, s4⟩ := sl j
          have eg : (List.range dl.length).getD j 0 = y := by rw [List.getD_eq_getElem?_getD, hy]; rfl
          refine ⟨_, _, decide ((drawF (selF 5 (drawF g 4).2 (List.range dl.length) j).2 5).1 = 0), _, rfl, fun Y hB D => (xg_n D 10 rfl rfl (lt_of rfl)), fun Y hB D => (xts_one (xw (xw_and (xt_v (xe_v D 3 rfl rfl rfl)) (fun _ => xw_and1 (xt_eq (xn (xe_callH (CalP.blk c_L_draw hB) (Room.blk hr hB) (by decide) D 0 rfl 0 rfl rfl rfl (xa_cons xe_int xa_nil) rfl (argc_ds _ [_]) (.mk s1 (by decide) (by decide)) (drawF_cells _ _))) xe_int opd_eqI)) (by intro z; cases z)))), fun hb => ⟨_, _, fun Y hB D => (xe_v D 10 rfl rfl rfl), rfl, ?_, rfl⟩, fun hb => ⟨?_, rfl⟩⟩
          · show _ = natsD (if _ then _ else _)
            rw [if_pos (of_decide_eq_true hb), natsD_app, eg]
            rfl
          · show _ = natsD (if _ then _ else _)
            rw [if_neg (of_decide_eq_false hb)]
        · obtain ⟨s1, s2, s3, s4⟩ := sl dl.length
          exact xss_ret (xe_tup (ds := [.str "open", .int (drawF (selF 5 (drawF g 4).2 (List.range dl.length) dl.length).2 5).1, .int (drawF (drawF (selF 5 (drawF g 4).2 (List.range dl.length) dl.length).2 5).2 5).1, .tup (natsD (selF 5 (drawF g 4).2 (List.range dl.length) dl.length).1)]) (xa_cons xe_str (xa_cons (xn (xe_callH c_L_draw hr (by decide) C 1 rfl 0 rfl rfl rfl (xa_cons (xe_v C 2 rfl rfl rfl) xa_nil) rfl (argc_ds _ [_]) (.mk s1 (by decide) (by decide)) (drawF_cells _ _))) (xa_cons (xn (xe_callH c_L_draw hr (by decide) C 1 rfl 0 rfl rfl rfl (xa_cons (xe_v C 2 rfl rfl rfl) xa_nil) rfl (argc_ds _ [_]) (.mk (drawF_ok _ s1) (by decide) (by decide)) (drawF_cells _ _))) (xa_cons (xe_v C 9 rfl rfl rfl) xa_nil)))) (le_of rfl)) ⟨rfl, rfl⟩ (lf_wish (.opn _ _ _))
      | false =>
        have e : wishF g dl false = (.opn (drawF (drawF g 4).2 5).1 (drawF (drawF (drawF g 4).2 5).2 5).1 [], (drawF (drawF (drawF g 4).2 5).2 5).2) := by
          unfold wishF
          simp only
          rw [if_pos q]
          rfl
        rw [e]
        refine xss_set (x := .tup (natsD [])) C 9 rfl rfl (xe_tuple C 2 rfl (xe_lcP (own := [("_law_deed", 10)]) (fun _ => none) C [0, 3, 10] [10] ["_law_draw"] (xi_r C 3 rfl (xe_v C 7 rfl rfl rfl) (by omega)) (by decide +kernel) (by decide +kernel) (LFs_nats _) (by rw [natsD_len, List.length_range]; omega) (fun j d hd => ?_) (List.filterMap_eq_nil_iff.mpr fun _ _ => rfl)) rfl) ?_ (lt_of rfl)
        · obtain ⟨y, hy, rfl⟩ := natsD_of hd
          exact ⟨_, _, false, rfl, fun Y hB D => (xg_n D 10 rfl rfl (lt_of rfl)), fun Y hB D => (xts_one (xw (xw_and (xt_v (xe_v D 3 rfl rfl rfl)) (by intro z; cases z) (fun _ => ⟨rfl, rfl⟩)))), (by intro z; cases z), fun _ => rfl, rfl⟩
        · exact xss_ret (xe_tup (ds := [.str "open", .int (drawF (drawF g 4).2 5).1, .int (drawF (drawF (drawF g 4).2 5).2 5).1, .tup (natsD [])]) (xa_cons xe_str (xa_cons (xn (xe_callH c_L_draw hr (by decide) C 1 rfl 0 rfl rfl rfl (xa_cons (xe_v C 2 rfl rfl rfl) xa_nil) rfl (argc_ds _ [_]) (.mk k0 (by decide) (by decide)) (drawF_cells _ _))) (xa_cons (xn (xe_callH c_L_draw hr (by decide) C 1 rfl 0 rfl rfl rfl (xa_cons (xe_v C 2 rfl rfl rfl) xa_nil) rfl (argc_ds _ [_]) (.mk (drawF_ok _ k0) (by decide) (by decide)) (drawF_cells _ _))) (xa_cons (xe_v C 9 rfl rfl rfl) xa_nil)))) (le_of rfl)) ⟨rfl, rfl⟩ (lf_wish (.opn _ _ _))
    · have hq : (decide (((dl.length : Nat) : Int) = 0) || decide ((drawF g 4).1 = 0)) = false := by
        rw [Bool.or_eq_false_iff, decide_eq_false_iff_not, decide_eq_false_iff_not]
        omega
      refine xss_if0 (xt_f (xw (xw_or2 (xt_eq (xe_v C 7 rfl rfl rfl) xe_int opd_eqI) (fun _ => (xt_eq (xe_v C 8 rfl rfl rfl) xe_int opd_eqI)))) hq) (by intro z; cases z) (fun _ => ?_)
      have hn : (0 : Int) < ((dl.length : Nat) : Int) := by omega
      obtain ⟨e1, e2⟩ := drawF_lt (drawF g 4).2 hn
      have k1 := drawF_ok ((dl.length : Nat) : Int) k0
      have ed : (drawF (drawF g 4).2 ((dl.length : Nat) : Int)).1 = (((drawF (drawF g 4).2 ((dl.length : Nat) : Int)).1.toNat : Nat) : Int) := by omega
      have hd : (drawF (drawF g 4).2 ((dl.length : Nat) : Int)).1.toNat < dl.length := by omega
      have ew : wishF g dl wt = wishR (drawF g 4).1 wt dl (drawF (drawF g 4).2 ((dl.length : Nat) : Int)).1.toNat (drawF (drawF g 4).2 ((dl.length : Nat) : Int)).2 := by
        unfold wishF
        simp only
        rw [if_neg q]
      refine xss_set (x := .int ((drawF (drawF g 4).2 ((dl.length : Nat) : Int)).1.toNat : Nat)) C 10 rfl rfl (xe_i (xn (xe_callH c_L_draw hr (by decide) C 1 rfl 0 rfl rfl rfl (xa_cons (xe_v C 7 rfl rfl rfl) xa_nil) rfl (argc_ds _ [_]) (.mk k0 hn (by omega)) (drawF_cells _ _))) ed) ?_ (lt_of rfl)
      rw [ew]
      generalize (drawF (drawF g 4).2 ((dl.length : Nat) : Int)).1.toNat = d at hd ⊢
      generalize (drawF (drawF g 4).2 ((dl.length : Nat) : Int)).2 = g1 at k1 ⊢
      unfold wishR
      have hdl : ∀ y ∈ [d], y < dl.length := by intro y hy; rw [List.mem_singleton.mp hy]; exact hd
      have hnd := o.need _ (mem_dl hd)
      by_cases q2 : ((drawF g 4).1 = 1 ∧ wt = true) ∧ 0 < (fitL dl d).length
      · rw [if_pos q2]
        obtain ⟨⟨q3, rfl⟩, q4⟩ := q2
        obtain ⟨f1, f2⟩ := drawF_lt g1 (show (0 : Int) < ((fitL dl d).length : Int) by omega)
        have hlt : (drawF g1 ((fitL dl d).length : Int)).1.toNat < (fitL dl d).length := by omega
        have hfl : (fitL dl d).length ≤ 30 := by
          have := List.length_filter_le (fun o => !decide (o ∈ clo (wts dl) [d]) && !decide (d ∈ clo (wts dl) [o])) (List.range dl.length)
          rw [List.length_range] at this
          exact Nat.le_trans this (by omega)
        refine xss_if0 (xt_t (xw (xw_and2 (xt_eq (xe_v C 8 rfl rfl rfl) xe_int opd_eqI) (fun _ => (xt_v (xe_v C 3 rfl rfl rfl))))) (by rw [decide_eq_true q3]; rfl)) (fun _ => ?_) (by intro z; cases z)
        refine xss_setLcP (own := [("_law_other", 14)]) (accF := natsD (fitL dl d)) (fun m => if (!decide (m ∈ clo (wts dl) [d]) && !decide (d ∈ clo (wts dl) [m])) = true then some (.int (m : Nat)) else none) C 11 rfl rfl (by decide +kernel) [6, 10, 14] [14] ["_law_closure"] (xi_r C 3 rfl (xe_v C 7 rfl rfl rfl) (by omega)) (by decide +kernel) (by decide +kernel) (LFs_nats _) (by rw [natsD_len, List.length_range]; omega) (fun m x hx => ?_) ?_ rfl rfl (by decide +kernel) (lt_of rfl) ?_
        · obtain ⟨y, hy, rfl⟩ := natsD_of hx
          obtain ⟨hm, rfl⟩ := range_at hy
          have hyl : ∀ z ∈ [y], z < dl.length := by intro z hz; rw [List.mem_singleton.mp hz]; exact hm
          exact ⟨_, _, (!decide (y ∈ clo (wts dl) [d]) && !decide (d ∈ clo (wts dl) [y])), rfl, fun Y hB D => (xg_n D 14 rfl rfl (lt_of rfl)), fun Y hB D => (xts_one (xw (xw_and2 (xt_b (xt_notin (xe_v D 14 rfl rfl rfl) (xn (xe_call (CalP.blk c_L_closure hB) (Room.blk hr hB) (by decide) D 0 rfl (xa_cons (xe_v D 6 rfl rfl rfl) (xa_cons (xn (xe_lst (ds := [_]) (xa_cons (xe_v D 10 rfl rfl rfl) xa_nil) (le_of rfl) rfl)) xa_nil)) (argc_ds _ [_, _]) (.mk (lot := [d]) o hdl (by simp)))) (.inr rfl)) (by rw [decide_eq_decide.mpr int_mem])) (fun _ => (xt_b (xt_notin (xe_v D 10 rfl rfl rfl) (xn (xe_call (CalP.blk c_L_closure hB) (Room.blk hr hB) (by decide) D 0 rfl (xa_cons (xe_v D 6 rfl rfl rfl) (xa_cons (xn (xe_lst (ds := [_]) (xa_cons (xe_v D 14 rfl rfl rfl) xa_nil) (le_of rfl) rfl)) xa_nil)) (argc_ds _ [_, _]) (.mk (lot := [y]) o hyl (by simp)))) (.inr rfl)) (by rw [decide_eq_decide.mpr int_mem])))))), fun hb => ⟨_, if_pos hb, fun Y hB D => (xe_v D 14 rfl rfl rfl), rfl⟩, fun hb => if_neg (by rw [hb]; simp), rfl⟩
        · rw [natsD_len, List.length_range]
          unfold natsD fitL
          rw [List.map_map]
          exact filter_fm (fun m => !decide (m ∈ clo (wts dl) [d]) && !decide (d ∈ clo (wts dl) [m])) (fun m => K06.D.int ((m : Nat) : Int)) _
        refine xss_if0 (xt_t (xt_gt (xe_len C 0 rfl (xe_v C 11 rfl rfl rfl) (.inl rfl)) xe_int) (decide_eq_true (by rw [natsD_len]; omega))) (fun _ => ?_) (by intro z; cases z)
        have hix : L2.atI (natsD (fitL dl d)) (drawF g1 ((fitL dl d).length : Int)).1 = some (.int (((fitL dl d).getD (drawF g1 ((fitL dl d).length : Int)).1.toNat 0 : Nat) : Int)) := by
          have h4 := atI_nat (natsD_get (getD_at hlt 0))
          rw [show (((drawF g1 ((fitL dl d).length : Int)).1.toNat : Nat) : Int) = (drawF g1 ((fitL dl d).length : Int)).1 by omega] at h4
          exact h4
        exact xss_ret (xe_tup (ds := [.str "wait", .int (d : Nat), .int ((fitL dl d).getD (drawF g1 ((fitL dl d).length : Int)).1.toNat 0 : Nat)]) (xa_cons xe_str (xa_cons (xe_v C 10 rfl rfl rfl) (xa_cons (xe_ixL (xe_v C 11 rfl rfl rfl) (xn (xe_callH c_L_draw hr (by decide) C 1 rfl 0 rfl rfl rfl (xa_cons (xe_i (y := ((fitL dl d).length : Int)) (xe_len C 0 rfl (xe_v C 11 rfl rfl rfl) (.inl rfl)) (by rw [natsD_len])) xa_nil) rfl (argc_ds _ [_]) (.mk k1 (by omega) (by omega)) (drawF_cells _ _))) rfl hix) xa_nil))) (le_of rfl)) ⟨rfl, rfl⟩ rfl
      · rw [if_neg q2]
        refine xss_if (Mid := fun δ => ∃ x11, δ = [some (.hd p c g1), some (.im (prt c' h dl)), some (.im (.int 5)), some (.im (.bl wt)), some (.im (.int c')), some (.im (.int h)), some (.im (.tup (encDs dl))), some (.im (.int (dl.length : Nat))), some (.im (.int (drawF g 4).1)), none, some (.im (.int (d : Nat))), x11, none, none, none]) (xw (xw_and2 (xt_eq (xe_v C 8 rfl rfl rfl) xe_int opd_eqI) (fun _ => (xt_v (xe_v C 3 rfl rfl rfl))))) (fun hb => ?_) (fun hb => xss_nil ⟨none, rfl⟩) (fun δ hδ => ?_)
        · have hb1 := Bool.and_eq_true_iff.mp hb
          have hfn : (fitL dl d).length = 0 := by
            have : ¬ 0 < (fitL dl d).length := fun z => q2 ⟨⟨of_decide_eq_true hb1.1, hb1.2⟩, z⟩
            omega
          refine xss_setLcP (own := [("_law_other", 14)]) (accF := natsD (fitL dl d)) (fun m => if (!decide (m ∈ clo (wts dl) [d]) && !decide (d ∈ clo (wts dl) [m])) = true then some (.int (m : Nat)) else none) C 11 rfl rfl (by decide +kernel) [6, 10, 14] [14] ["_law_closure"] (xi_r C 3 rfl (xe_v C 7 rfl rfl rfl) (by omega)) (by decide +kernel) (by decide +kernel) (LFs_nats _) (by rw [natsD_len, List.length_range]; omega) (fun m x hx => ?_) ?_ rfl rfl (by decide +kernel) (lt_of rfl) ?_
          · obtain ⟨y, hy, rfl⟩ := natsD_of hx
            obtain ⟨hm, rfl⟩ := range_at hy
            have hyl : ∀ z ∈ [y], z < dl.length := by intro z hz; rw [List.mem_singleton.mp hz]; exact hm
            exact ⟨_, _, (!decide (y ∈ clo (wts dl) [d]) && !decide (d ∈ clo (wts dl) [y])), rfl, fun Y hB D => (xg_n D 14 rfl rfl (lt_of rfl)), fun Y hB D => (xts_one (xw (xw_and2 (xt_b (xt_notin (xe_v D 14 rfl rfl rfl) (xn (xe_call (CalP.blk c_L_closure hB) (Room.blk hr hB) (by decide) D 0 rfl (xa_cons (xe_v D 6 rfl rfl rfl) (xa_cons (xn (xe_lst (ds := [_]) (xa_cons (xe_v D 10 rfl rfl rfl) xa_nil) (le_of rfl) rfl)) xa_nil)) (argc_ds _ [_, _]) (.mk (lot := [d]) o hdl (by simp)))) (.inr rfl)) (by rw [decide_eq_decide.mpr int_mem])) (fun _ => (xt_b (xt_notin (xe_v D 10 rfl rfl rfl) (xn (xe_call (CalP.blk c_L_closure hB) (Room.blk hr hB) (by decide) D 0 rfl (xa_cons (xe_v D 6 rfl rfl rfl) (xa_cons (xn (xe_lst (ds := [_]) (xa_cons (xe_v D 14 rfl rfl rfl) xa_nil) (le_of rfl) rfl)) xa_nil)) (argc_ds _ [_, _]) (.mk (lot := [y]) o hyl (by simp)))) (.inr rfl)) (by rw [decide_eq_decide.mpr int_mem])))))), fun hb => ⟨_, if_pos hb, fun Y hB D => (xe_v D 14 rfl rfl rfl), rfl⟩, fun hb => if_neg (by rw [hb]; simp), rfl⟩
          · rw [natsD_len, List.length_range]
            unfold natsD fitL
            rw [List.map_map]
            exact filter_fm (fun m => !decide (m ∈ clo (wts dl) [d]) && !decide (d ∈ clo (wts dl) [m])) (fun m => K06.D.int ((m : Nat) : Int)) _
          exact xss_if0 (xt_f (xt_gt (xe_len C 0 rfl (xe_v C 11 rfl rfl rfl) (.inl rfl)) xe_int) (decide_eq_false (by rw [natsD_len]; omega))) (by intro z; cases z) (fun _ => xss_nil ⟨_, rfl⟩)
        · obtain ⟨x11, rfl⟩ := hδ
          refine xss_set C 12 rfl rfl (xe_add xe_int (xn (xe_callH c_L_draw hr (by decide) C 1 rfl 0 rfl rfl rfl (xa_cons (xe_v C 2 rfl rfl rfl) xa_nil) rfl (argc_ds _ [_]) (.mk k1 (by decide) (by decide)) (drawF_cells _ _)))) ?_ (lt_of rfl)
          refine xss_set C 13 rfl rfl (xe_ixT (xe_ixT (xe_v C 6 rfl rfl rfl) (xe_v C 10 rfl rfl rfl) rfl (atI_nat (encDs_get (getD_some hd)))) xe_int rfl rfl) ?_ (lt_of rfl)
          by_cases q3 : (drawF (drawF g1 5).2 2).1 = 0
          · rw [if_pos q3]
            refine xss_if0 (xt_t (xt_eq (xn (xe_callH c_L_draw hr (by decide) C 1 rfl 0 rfl rfl rfl (xa_cons xe_int xa_nil) rfl (argc_ds _ [_]) (.mk (drawF_ok _ k1) (by decide) (by decide)) (drawF_cells _ _))) xe_int opd_eqI) (decide_eq_true q3)) (fun _ => ?_) (by intro z; cases z)
            refine xss_set C 12 rfl rfl (xe_min2 C 4 rfl (xa_cons (xe_v C 12 rfl rfl rfl) (xa_cons (xe_max2 C 5 rfl (xa_cons xe_int (xa_cons (xe_v C 13 rfl rfl rfl) xa_nil))) xa_nil))) ?_ (lt_of rfl)
            exact xss_ret (xe_tup (ds := [_, _, _, _]) (xa_cons xe_str (xa_cons (xe_v C 10 rfl rfl rfl) (xa_cons (xe_v C 12 rfl rfl rfl) (xa_cons (xe_max2 C 5 rfl (xa_cons xe_int (xa_cons (xe_sub (xe_v C 13 rfl rfl rfl) (xe_v C 12 rfl rfl rfl)) xa_nil))) xa_nil)))) (le_of rfl)) ⟨rfl, rfl⟩ rfl
          · rw [if_neg q3]
            refine xss_if0 (xt_f (xt_eq (xn (xe_callH c_L_draw hr (by decide) C 1 rfl 0 rfl rfl rfl (xa_cons xe_int xa_nil) rfl (argc_ds _ [_]) (.mk (drawF_ok _ k1) (by decide) (by decide)) (drawF_cells _ _))) xe_int opd_eqI) (decide_eq_false q3)) (by intro z; cases z) (fun _ => ?_)
            exact xss_ret (xe_tup (ds := [_, _, _, _]) (xa_cons xe_str (xa_cons (xe_v C 10 rfl rfl rfl) (xa_cons (xe_v C 12 rfl rfl rfl) (xa_cons (xn (xe_callH c_L_draw hr (by decide) C 1 rfl 0 rfl rfl rfl (xa_cons (xe_add (xe_v C 2 rfl rfl rfl) (xe_v C 13 rfl rfl rfl)) xa_nil) rfl (argc_ds _ [_]) (.mk (drawF_ok _ (drawF_ok _ k1)) (by omega) (by omega)) (drawF_cells _ _))) xa_nil)))) (le_of rfl)) ⟨rfl, rfl⟩ rfl
theorem c_L_wish (D : Df K mg "_law_wish" s_L_wish) (hg : Glb mg) (c_L_draw : CalP P w K mg base 1 "_law_draw" (spH CS R_L_draw)) (c_L_closure : CalP P w K mg base 1 "_law_closure" (spD CS R_L_closure)) : CalP P w K mg base 3 "_law_wish" (spH CS R_L_wish) :=
  mkH D hg sc_L_wish ok_L_wish (by intro _ _ _ _ h; cases h <;> rfl) (fun X hX C hr p c g ds r g' hR hc => b_L_wish C hr (hX.cal c_L_draw) (hX.cal c_L_closure) hR hc) (fun f fd F => F.binds fun _ _ _ _ _ _ us hl => match us, hl with | [_, _, _, _], _ => rfl)
end K06
/-! D13: what a keeper says. -/
namespace K06
open PySem PySem.Spec L2
variable {P : Program} {w : World} {K : PySem.W.Frag} {mg : Str → Option Value} {base : Heap} {CS : Addr} {X : Cx}
inductive R_L_lets : List D → D → Prop
  | mk {b k c h : Int} {dl : List Deed} {w : Wish} : Ok b h dl → OkW b dl w → R_L_lets [.int k, prt c h dl, w.enc] (.bl (letsB k c (h + more w) (bh h dl w)))
theorem encDs_bare (dl : List Deed) : (List.range (encDs dl).length).filterMap (fun i => some (Deed.enc ⟨(dl.getD i dflt).first, (dl.getD i dflt).need, []⟩)) = encDs (bare dl) := by
  rw [encDs_len, fm_some]
  unfold encDs bare
  rw [List.map_map]
  exact range_get _ _ _ fun i x h => by rw [getD_of h]; rfl
theorem b_L_lets (C : Ctx X (defScope s_L_lets) N_L_lets V_L_lets V_L_lets G_L_lets) (hr : Room 4 X.A) (c_L_behind : CalX X 2 "_law_behind" (spD CS R_L_behind)) (c_L_loads : CalX X 4 "_law_loads" (spD CS R_L_loads)) (c_L_used : CalX X 1 "_law_used" (spD CS R_L_used)) {ds : List D} {r : D} (hR : R_L_lets ds r) :
    XSs X CS (defBody s_L_lets) (startD N_L_lets (ds.map Slot.im)) (Pr r) := by
  cases hR with
  | @mk b k c h dl w o ok =>
    have o2 := bh_ok o ok
    have hlen := o2.len
    refine xss_set C 3 rfl rfl (xn (xe_call c_L_behind hr (by decide) C 0 rfl (xa_cons (xe_v C 1 rfl rfl rfl) (xa_cons (xe_v C 2 rfl rfl rfl) xa_nil)) (argc_ds _ [_, _]) (.mk o ok))) ?_ (lt_of rfl)
    generalize bh h dl w = dl2 at o2 hlen ⊢
    generalize h + more w = h2 at o2 ⊢
    refine xss_asg (xe_v C 3 rfl rfl rfl) (xg_t C (xgs_cons (xg_n C 4 rfl rfl (lt_of rfl)) (xgs_cons (xg_n C 5 rfl rfl (lt_of rfl)) (xgs_cons (xg_n C 6 rfl rfl (lt_of rfl)) xgs_nil))) rfl) ?_
    by_cases k3 : k < 3
    · refine xss_if0 (xt_t (xt_lt (xe_v C 0 rfl rfl rfl) xe_int) (decide_eq_true k3)) (fun _ => ?_) (by intro z; cases z)
      refine xss_ret (xe_b (xe_all (ns := (loads h2 dl2).map fun l => decide (l + k ≤ c)) C 1 rfl (xe_lcP (own := [("_law_load_here", 8)]) (fun m => some (.bl (decide ((loads h2 dl2).getD m 0 + k ≤ c)))) C [0, 4, 8] [8] [] (xi_t (xn (xe_call c_L_loads hr (by decide) C 2 rfl (xa_cons (xe_v C 5 rfl rfl rfl) (xa_cons (xe_v C 6 rfl rfl rfl) xa_nil)) (argc_ds _ [_, _]) (.mk o2))) rfl) (by decide +kernel) (by decide +kernel) (LFs_ints _) (by rw [List.length_map, loads_len]; omega) (fun m d hd => ?_) ?_) rfl) ?_) rfl rfl
      · rw [List.getElem?_map] at hd
        cases q : (loads h2 dl2)[m]? with
        | none => rw [q] at hd; cases hd
        | some l =>
          rw [q] at hd
          cases hd
          refine ⟨_, _, true, rfl, fun Y hB D => (xg_n D 8 rfl rfl (lt_of rfl)), fun Y hB D => xts_nil, fun _ => ⟨_, rfl, fun Y hB D => xe_b (xe_le (xe_add (xe_v D 8 rfl rfl rfl) (xe_v D 0 rfl rfl rfl)) (xe_v D 4 rfl rfl rfl)) (by rw [List.getD_eq_getElem?_getD, q]; rfl), rfl⟩, (by intro z; cases z), rfl⟩
      · rw [List.length_map, fm_some, List.map_map]
        exact range_get _ _ _ fun m x hx => by rw [List.getD_eq_getElem?_getD, hx]; rfl
      · unfold letsB
        rw [if_pos k3, List.all_map]
        rfl
    · refine xss_if0 (xt_f (xt_lt (xe_v C 0 rfl rfl rfl) xe_int) (decide_eq_false k3)) (by intro z; cases z) (fun _ => ?_)
      by_cases e3 : k = 3
      · refine xss_if0 (xt_t (xt_eq (xe_v C 0 rfl rfl rfl) xe_int opd_eqI) (decide_eq_true e3)) (fun _ => ?_) (by intro z; cases z)
        refine xss_ret (xe_b (xe_le (xn (xe_call c_L_used hr (by decide) C 3 rfl (xa_cons (xe_v C 5 rfl rfl rfl) (xa_cons (xe_v C 6 rfl rfl rfl) xa_nil)) (argc_ds _ [_, _]) (.mk o2))) (xe_v C 4 rfl rfl rfl)) ?_) rfl rfl
        unfold letsB
        rw [if_neg k3, if_pos e3]
      · refine xss_if0 (xt_f (xt_eq (xe_v C 0 rfl rfl rfl) xe_int opd_eqI) (decide_eq_false e3)) (by intro z; cases z) (fun _ => ?_)
        by_cases e4 : k = 4
        · refine xss_if0 (xt_t (xt_eq (xe_v C 0 rfl rfl rfl) xe_int opd_eqI) (decide_eq_true e4)) (fun _ => ?_) (by intro z; cases z)
          refine xss_ret (xe_b (xe_le (xe_add (xn (xe_call c_L_used hr (by decide) C 3 rfl (xa_cons (xe_v C 5 rfl rfl rfl) (xa_cons (xe_v C 6 rfl rfl rfl) xa_nil)) (argc_ds _ [_, _]) (.mk o2))) (xe_sum (ns := dl2.map (·.need)) C 4 rfl (xe_lcP (own := [("_law_deed", 9)]) (fun m => some (.int (dl2.getD m dflt).need)) C [9] [9] [] (xi_t (xe_v C 6 rfl rfl rfl) rfl) (by decide +kernel) (by decide +kernel) (lf_encs dl2) (by rw [encDs_len]; omega) (fun m d hd => ?_) ?_) rfl)) (xe_v C 4 rfl rfl rfl)) ?_) rfl rfl
          · obtain ⟨dd, e, rfl⟩ := encDs_of hd
            exact ⟨_, _, true, rfl, fun Y hB D => (xg_n D 9 rfl rfl (lt_of rfl)), fun Y hB D => xts_nil, fun _ => ⟨_, rfl, fun Y hB D => xe_to (xe_ixT (xe_v D 9 rfl rfl rfl) xe_int rfl rfl) (by rw [getD_of e]), rfl⟩, (by intro z; cases z), rfl⟩
          · rw [encDs_len, fm_some, List.map_map]
            exact range_get _ _ _ fun m x hx => by rw [getD_of hx]; rfl
          · unfold letsB
            rw [if_neg k3, if_neg e3, if_pos e4]
        · refine xss_if0 (xt_f (xt_eq (xe_v C 0 rfl rfl rfl) xe_int opd_eqI) (decide_eq_false e4)) (by intro z; cases z) (fun _ => ?_)
          by_cases e5 : k = 5
          · refine xss_if0 (xt_t (xt_eq (xe_v C 0 rfl rfl rfl) xe_int opd_eqI) (decide_eq_true e5)) (fun _ => ?_) (by intro z; cases z)
            have hbl : (bare dl2).length = dl2.length := by simp [bare]
            refine xss_set C 7 rfl rfl (xe_tuple C 5 rfl (xe_lcP (own := [("_law_first", 10), ("_law_need", 11), ("_law_waits_here", 12)]) (fun i => some (Deed.enc ⟨(dl2.getD i dflt).first, (dl2.getD i dflt).need, []⟩)) C [10, 11, 12] [10, 11, 12] [] (xi_t (xe_v C 6 rfl rfl rfl) rfl) (by decide +kernel) (by decide +kernel) (lf_encs dl2) (by rw [encDs_len]; omega) (fun m d hd => ?_) (encDs_bare dl2)) rfl) ?_ (lt_of rfl)
            · obtain ⟨dd, e, rfl⟩ := encDs_of hd
              exact ⟨_, _, true, rfl, fun Y hB D => (xg_t D (xgs_cons (xg_n D 10 rfl rfl (lt_of rfl)) (xgs_cons (xg_n D 11 rfl rfl (lt_of rfl)) (xgs_cons (xg_n D 12 rfl rfl (lt_of rfl)) xgs_nil))) rfl), fun Y hB D => xts_nil, fun _ => ⟨_, rfl, fun Y hB D => xe_to (xe_tup (ds := [_, _, _]) (xa_cons (xe_v D 10 rfl rfl rfl) (xa_cons (xe_v D 11 rfl rfl rfl) (xa_cons (xe_tup (ds := []) xa_nil (le_of rfl)) xa_nil))) (le_of rfl)) (by rw [getD_of e]; rfl), lf_enc _⟩, (by intro z; cases z), rfl⟩
            refine xss_ret (xe_b (xe_all (ns := (loads h2 (bare dl2)).map fun l => decide (l ≤ c)) C 1 rfl (xe_lcP (own := [("_law_load_here", 8)]) (fun m => some (.bl (decide ((loads h2 (bare dl2)).getD m 0 ≤ c)))) C [4, 8] [8] [] (xi_t (xn (xe_call c_L_loads hr (by decide) C 2 rfl (xa_cons (xe_v C 5 rfl rfl rfl) (xa_cons (xe_v C 7 rfl rfl rfl) xa_nil)) (argc_ds _ [_, _]) (.mk o2.bare))) rfl) (by decide +kernel) (by decide +kernel) (LFs_ints _) (by rw [List.length_map, loads_len]; omega) (fun m d hd => ?_) ?_) rfl) ?_) rfl rfl
            · rw [List.getElem?_map] at hd
              cases q : (loads h2 (bare dl2))[m]? with
              | none => rw [q] at hd; cases hd
              | some l =>
                rw [q] at hd
                cases hd
                refine ⟨_, _, true, rfl, fun Y hB D => (xg_n D 8 rfl rfl (lt_of rfl)), fun Y hB D => xts_nil, fun _ => ⟨_, rfl, fun Y hB D => xe_b (xe_le (xe_v D 8 rfl rfl rfl) (xe_v D 4 rfl rfl rfl)) (by rw [List.getD_eq_getElem?_getD, q]; rfl), rfl⟩, (by intro z; cases z), rfl⟩
            · rw [List.length_map, fm_some, List.map_map]
              exact range_get _ _ _ fun m x hx => by rw [List.getD_eq_getElem?_getD, hx]; rfl
            · unfold letsB fineB
              rw [if_neg k3, if_neg e3, if_neg e4, if_pos e5, List.all_map]
              rfl
          · refine xss_if0 (xt_f (xt_eq (xe_v C 0 rfl rfl rfl) xe_int opd_eqI) (decide_eq_false e5)) (by intro z; cases z) (fun _ => ?_)
            refine xss_ret (xe_b (xe_eq (xe_v C 0 rfl rfl rfl) xe_int opd_eqI) ?_) rfl rfl
            unfold letsB
            rw [if_neg k3, if_neg e3, if_neg e4, if_neg e5]
theorem c_L_lets (D : Df K mg "_law_lets" s_L_lets) (hg : Glb mg) (c_L_behind : CalP P w K mg base 2 "_law_behind" (spD CS R_L_behind)) (c_L_loads : CalP P w K mg base 4 "_law_loads" (spD CS R_L_loads)) (c_L_used : CalP P w K mg base 1 "_law_used" (spD CS R_L_used)) : CalP P w K mg base 5 "_law_lets" (spD CS R_L_lets) :=
  mkD D hg sc_L_lets ok_L_lets (by intro _ _ h; cases h <;> rfl) (fun X hX C hr ds r hR => b_L_lets C hr (hX.cal c_L_behind) (hX.cal c_L_loads) (hX.cal c_L_used) hR) (fun f fd F => F.binds fun _ _ _ _ _ _ us hl => match us, hl with | [_, _, _], _ => rfl)
end K06
/-! M10: led along wishes; plain Lean. -/
namespace K06
/-- what is told of a wish -/
structure Told where
  w : Wish
  flag : Bool
  due : Bool
/-- the triples told: k the kind, c the cells -/
noncomputable def tellW (k c h : Int) (dl : List Deed) (w : Wish) : Told := ⟨w, letsB k c (h + more w) (bh h dl w), fineB c (h + more w) (bh h dl w)⟩
def Told.free (t : Told) : Bool := t.flag && !t.due
/-- the parts behind -/
def nextH (h : Int) (t : Told) : Int := if t.flag = true then h + more t.w else h
def nextD (h : Int) (dl : List Deed) (t : Told) : List Deed := if t.flag = true then bh h dl t.w else dl
/-- so many turns of the law's leading -/
noncomputable def ledF (k c : Int) (wt : Bool) : Nat → Int → List Deed → Hand → List Told × Int × List Deed × Hand
  | 0, h, dl, g => ([], h, dl, g)
  | n + 1, h, dl, g =>
    let t := tellW k c h dl (wishF g dl wt).1
    if t.free = true then ([t], nextH h t, nextD h dl t, (wishF g dl wt).2)
    else (t :: (ledF k c wt n (nextH h t) (nextD h dl t) (wishF g dl wt).2).1, (ledF k c wt n (nextH h t) (nextD h dl t) (wishF g dl wt).2).2)
/-- the program's watching -/
noncomputable def watF (k c : Int) : Int → List Deed → List Wish → List Told
  | _, _, [] => []
  | h, dl, w :: ws =>
    let t := tellW k c h dl w
    if t.free = true then [t] else t :: watF k c (nextH h t) (nextD h dl t) ws
/-- wishes, each right where it comes -/
inductive Chain (k c : Int) : Int → Int → List Deed → List Wish → Prop
  | nil {b h : Int} {dl : List Deed} : Ok b h dl → Chain k c b h dl []
  | cons {b h : Int} {dl : List Deed} {w : Wish} {ws : List Wish} : Ok b h dl → OkW b dl w → ((tellW k c h dl w).free = false → Chain k c (b + 5) (nextH h (tellW k c h dl w)) (nextD h dl (tellW k c h dl w)) ws) → Chain k c b h dl (w :: ws)
theorem Ok.mono {b b' h : Int} {dl : List Deed} (o : Ok b h dl) (l : b ≤ b') : Ok b' h dl := ⟨o.len, o.h0, Int.le_trans o.hb l, fun d hd => ⟨(o.need d hd).1, Int.le_trans (o.need d hd).2 l⟩, o.fst, o.up, o.wt, o.ac⟩
theorem next_ok {b k c h : Int} {dl : List Deed} {w : Wish} (o : Ok b h dl) (ok : OkW b dl w) : Ok (b + 5) (nextH h (tellW k c h dl w)) (nextD h dl (tellW k c h dl w)) ∧ (nextD h dl (tellW k c h dl w)).length ≤ dl.length + 1 := by
  unfold nextH nextD
  by_cases q : (tellW k c h dl w).flag = true
  · rw [if_pos q, if_pos q]
    exact ⟨bh_ok o ok, bh_len o ok⟩
  · rw [if_neg q, if_neg q]
    exact ⟨o.mono (by omega), by omega⟩
theorem ledF_ok {k c : Int} {wt : Bool} : ∀ (n : Nat) {b h : Int} {dl : List Deed} {g : Hand}, Ok b h dl → HOk' g → dl.length + n ≤ 29 →
    Chain k c b h dl ((ledF k c wt n h dl g).1.map (·.w)) ∧ watF k c h dl ((ledF k c wt n h dl g).1.map (·.w)) = (ledF k c wt n h dl g).1 ∧ HOk' (ledF k c wt n h dl g).2.2.2 ∧ (ledF k c wt n h dl g).2.2.2.cells = g.cells ∧ Ok (b + 5 * n) (ledF k c wt n h dl g).2.1 (ledF k c wt n h dl g).2.2.1 ∧ (ledF k c wt n h dl g).2.2.1.length ≤ dl.length + n
  | 0, b, h, dl, g, o, hg, hl => ⟨.nil o, rfl, hg, rfl, by simpa [ledF] using o, by simp [ledF]⟩
  | n + 1, b, h, dl, g, o, hg, hl => by
    obtain ⟨w1, w2, w3⟩ := wishF_ok (wt := wt) o hg (by omega)
    obtain ⟨o2, l2⟩ := next_ok (k := k) (c := c) o w1
    have hb5 : b + 5 + 5 * (n : Int) = b + 5 * ((n + 1 : Nat) : Int) := by omega
    cases q : (tellW k c h dl (wishF g dl wt).1).free with
    | true =>
      have e : ledF k c wt (n + 1) h dl g = ([tellW k c h dl (wishF g dl wt).1], nextH h (tellW k c h dl (wishF g dl wt).1), nextD h dl (tellW k c h dl (wishF g dl wt).1), (wishF g dl wt).2) := by
        simp only [ledF]
        rw [if_pos q]
      rw [e]
      refine ⟨.cons o w1 (fun z => ?_), ?_, w2, w3, o2.mono (by omega), by show (nextD h dl _).length ≤ _; omega⟩
      · have z' : (tellW k c h dl (wishF g dl wt).1).free = false := z
        rw [q] at z'
        cases z'
      · show watF k c h dl [(wishF g dl wt).1] = _
        simp only [watF]
        rw [if_pos q]
    | false =>
      obtain ⟨i1, i2, i3, i4, i5, i6⟩ := ledF_ok (k := k) (c := c) (wt := wt) n o2 w2 (by omega)
      have e : ledF k c wt (n + 1) h dl g = (tellW k c h dl (wishF g dl wt).1 :: (ledF k c wt n (nextH h (tellW k c h dl (wishF g dl wt).1)) (nextD h dl (tellW k c h dl (wishF g dl wt).1)) (wishF g dl wt).2).1, (ledF k c wt n (nextH h (tellW k c h dl (wishF g dl wt).1)) (nextD h dl (tellW k c h dl (wishF g dl wt).1)) (wishF g dl wt).2).2) := by
        simp only [ledF]
        rw [if_neg (by rw [q]; simp)]
      rw [e]
      refine ⟨.cons o w1 (fun _ => i1), ?_, i3, i4.trans w3, i5.mono (by omega), by show (ledF k c wt n _ _ _).2.2.1.length ≤ _; omega⟩
      show watF k c h dl ((wishF g dl wt).1 :: _) = _
      simp only [watF]
      rw [if_neg (show ¬ (tellW k c h dl (wishF g dl wt).1).free = true by rw [q]; simp)]
      rw [i2]
/-- behind all: easy, or the last is free and it isn't -/
theorem ledF_end {k c : Int} {wt : Bool} : ∀ (n : Nat) {h : Int} {dl : List Deed} {g : Hand}, fineB c h dl = true → 0 < n →
    ∃ ts t, (ledF k c wt n h dl g).1 = ts ++ [t] ∧ ((t.free = false ∧ fineB c (ledF k c wt n h dl g).2.1 (ledF k c wt n h dl g).2.2.1 = true) ∨ (t.free = true ∧ fineB c (ledF k c wt n h dl g).2.1 (ledF k c wt n h dl g).2.2.1 = false))
  | 0, h, dl, g, hf, hn => absurd hn (Nat.lt_irrefl 0)
  | n + 1, h, dl, g, hf, _ => by
    have fine2 : (tellW k c h dl (wishF g dl wt).1).free = false → fineB c (nextH h (tellW k c h dl (wishF g dl wt).1)) (nextD h dl (tellW k c h dl (wishF g dl wt).1)) = true := fun z => by
      unfold nextH nextD
      by_cases q : (tellW k c h dl (wishF g dl wt).1).flag = true
      · rw [if_pos q, if_pos q]
        have : (tellW k c h dl (wishF g dl wt).1).due = true := by
          unfold Told.free at z
          rw [q] at z
          simpa using z
        exact this
      · rw [if_neg q, if_neg q]
        exact hf
    cases q : (tellW k c h dl (wishF g dl wt).1).free with
    | true =>
      have e : ledF k c wt (n + 1) h dl g = ([tellW k c h dl (wishF g dl wt).1], nextH h (tellW k c h dl (wishF g dl wt).1), nextD h dl (tellW k c h dl (wishF g dl wt).1), (wishF g dl wt).2) := by
        simp only [ledF]
        rw [if_pos q]
      rw [e]
      refine ⟨[], _, rfl, .inr ⟨q, ?_⟩⟩
      have hq : (tellW k c h dl (wishF g dl wt).1).flag = true ∧ (tellW k c h dl (wishF g dl wt).1).due = false := by
        unfold Told.free at q
        simpa using q
      show fineB c (nextH h _) (nextD h dl _) = false
      unfold nextH nextD
      rw [if_pos hq.1, if_pos hq.1]
      exact hq.2
    | false =>
      have e : ledF k c wt (n + 1) h dl g = (tellW k c h dl (wishF g dl wt).1 :: (ledF k c wt n (nextH h (tellW k c h dl (wishF g dl wt).1)) (nextD h dl (tellW k c h dl (wishF g dl wt).1)) (wishF g dl wt).2).1, (ledF k c wt n (nextH h (tellW k c h dl (wishF g dl wt).1)) (nextD h dl (tellW k c h dl (wishF g dl wt).1)) (wishF g dl wt).2).2) := by
        simp only [ledF]
        rw [if_neg (by rw [q]; simp)]
      rw [e]
      cases n with
      | zero => exact ⟨[], _, rfl, .inl ⟨q, fine2 q⟩⟩
      | succ n =>
        obtain ⟨ts, t, h1, h2⟩ := ledF_end (k := k) (c := c) (wt := wt) (n + 1) (g := (wishF g dl wt).2) (fine2 q) (Nat.succ_pos n)
        exact ⟨_ :: ts, t, by rw [h1]; rfl, h2⟩
end K06
/-! D14: led along wishes. -/
namespace K06
open PySem PySem.Spec L2
variable {P : Program} {w : World} {K : PySem.W.Frag} {mg : Str → Option Value} {base : Heap} {CS : Addr} {X : Cx}
/-- the word of a wish -/
def wordOf (flag due : Bool) : Str := if flag = due then "" else if due = true then "shy" else "free"
def Told.enc (t : Told) : D := .tup [t.w.enc, .bl t.flag, .str (wordOf t.flag t.due)]
theorem lf_told (t : Told) : LF t.enc = true := by
  have := lf_wish t.w
  simp only [Told.enc, LF, LFs, this, Bool.and_true]
theorem lf_tolds (ts : List Told) : LFs (ts.map Told.enc) = true := LFs_map lf_told ts
theorem lf_wishes (ts : List Wish) : LFs (ts.map Wish.enc) = true := LFs_map lf_wish ts
/-- how many turns -/
def turnsG (g : Hand) : Nat := (1 + (drawF g 12).1).toNat
theorem turnsG_ok (g : Hand) : 1 ≤ turnsG g ∧ turnsG g ≤ 12 ∧ 1 + (drawF g 12).1 = ((turnsG g : Nat) : Int) := by
  have := drawF_lt g (by decide : (0 : Int) < 12)
  unfold turnsG
  omega
noncomputable def ledG (k c : Int) (wt : Bool) (h : Int) (dl : List Deed) (g : Hand) := ledF k c wt (turnsG g) h dl (drawF g 12).2
inductive R_L_led : Hand → List D → D → Hand → Prop
  | mk {g : Hand} {b k c h : Int} {dl : List Deed} {wt : Bool} : HOk' g → Ok b h dl → b ≤ 1000 → dl.length ≤ 16 →
      R_L_led g [.int k, prt c h dl, .bl wt] (.tup [.lst ((ledG k c wt h dl g).1.map fun t => t.w.enc), .lst ((ledG k c wt h dl g).1.map Told.enc), prt c (ledG k c wt h dl g).2.1 (ledG k c wt h dl g).2.2.1]) (ledG k c wt h dl g).2.2.2
theorem b_L_led (C : Ctx X (defScope s_L_led) N_L_led V_L_led V_L_led G_L_led) (hr : Room 5 X.A) (c_L_draw : CalX X 1 "_law_draw" (spH CS R_L_draw)) (c_L_wish : CalX X 3 "_law_wish" (spH CS R_L_wish)) (c_L_lets : CalX X 5 "_law_lets" (spD CS R_L_lets)) (c_L_fine : CalX X 5 "_law_fine" (spD CS R_L_fine)) (c_L_behind : CalX X 2 "_law_behind" (spD CS R_L_behind)) {p c : Addr} {g g' : Hand} {ds : List D} {r : D} (hR : R_L_led g ds r g') (hc : g'.cells = g.cells) :
    XSs X CS (defBody s_L_led) (startD N_L_led (.hd p c g :: ds.map Slot.im)) { nx := fun _ => False, rt := fun δ d => d = r ∧ δ[0]? = some (some (.hd p c g')) } := by
  cases hR with
  | @mk b k c' h dl wt hok o hb hl =>
    obtain ⟨t1, t2, t3⟩ := turnsG_ok g
    have k0 := drawF_ok 12 hok
    have wl : ∀ ts : List Told, LFs (ts.map fun t => t.w.enc) = true := fun ts => LFs_map (f := fun t : Told => t.w.enc) (fun t => lf_wish t.w) ts
    refine xss_parL C 4 5 rfl rfl (by decide) (by decide +kernel) (by decide +kernel) rfl (by intro env h1 h2 h3; unfold swappedStores; simp only [h1, h2, h3, Expr.pos, List.length_cons, List.length_nil, List.filterMap_cons, List.filterMap_nil, List.head?_cons, Option.map_some, Option.getD_some]; with_unfolding_all rfl) (fun lw lf => ?_) (lt_of rfl) (lt_of rfl)
    unfold ledG
    refine xss_for C (xi_r (n := turnsG g) C 0 rfl (xe_i (xe_add xe_int (xn (xe_callH c_L_draw hr (by decide) C 1 rfl 0 rfl rfl rfl (xa_cons xe_int xa_nil) rfl (argc_ds _ [_]) (.mk hok (by decide) (by decide)) (drawF_cells _ _)))) t3) (by omega))
      (fun i δ => ∃ acc h' dl' g' x6 x7 x8 x9, δ = [some (.hd p c g'), some (.im (.int k)), some (.im (prt c' h' dl')), some (.im (.bl wt)), some (.ml lw (List.map (fun t : Told => t.w.enc) acc)), some (.ml lf (List.map Told.enc acc)), x6, x7, x8, x9] ∧ Ok (b + 5 * (i : Nat)) h' dl' ∧ HOk' g' ∧ dl'.length ≤ dl.length + i ∧ acc.length = i ∧
        ledF k c' wt (turnsG g) h dl (drawF g 12).2 = (acc ++ (ledF k c' wt (turnsG g - i) h' dl' g').1, (ledF k c' wt (turnsG g - i) h' dl' g').2))
      (fun δ => ∃ x6 x7 x8 x9, δ = [some (.hd p c (ledF k c' wt (turnsG g) h dl (drawF g 12).2).2.2.2), some (.im (.int k)), some (.im (prt c' (ledF k c' wt (turnsG g) h dl (drawF g 12).2).2.1 (ledF k c' wt (turnsG g) h dl (drawF g 12).2).2.2.1)), some (.im (.bl wt)), some (.ml lw (List.map (fun t : Told => t.w.enc) (ledF k c' wt (turnsG g) h dl (drawF g 12).2).1)), some (.ml lf (List.map Told.enc (ledF k c' wt (turnsG g) h dl (drawF g 12).2).1)), x6, x7, x8, x9])
      ⟨[], h, dl, (drawF g 12).2, none, none, none, none, rfl, by simpa using o, k0, by omega, rfl, rfl⟩ (fun i d δ hd hI => ?_) (fun δ hI => ?_) (fun δ ⟨x6, x7, x8, x9, e⟩ => ?_)
    · obtain ⟨acc, h', dl', g', x6, x7, x8, x9, rfl, o', hg', hl', ha, hE⟩ := hI
      obtain ⟨x, hx, rfl⟩ := natsD_of hd
      obtain ⟨hin, rfl⟩ := range_at hx
      have hn1 : turnsG g - x = (turnsG g - (x + 1)) + 1 := by omega
      rw [hn1] at hE
      obtain ⟨w1, w2, w3⟩ := wishF_ok (wt := wt) o' hg' (by omega)
      obtain ⟨o2, l2⟩ := next_ok (k := k) (c := c') o' w1
      have hb5 : b + 5 * ((x : Nat) : Int) + 5 = b + 5 * ((x + 1 : Nat) : Int) := by omega
      rw [hb5] at o2
      have hstep : ledF k c' wt ((turnsG g - (x + 1)) + 1) h' dl' g' = if (tellW k c' h' dl' (wishF g' dl' wt).1).free = true then ([tellW k c' h' dl' (wishF g' dl' wt).1], nextH h' (tellW k c' h' dl' (wishF g' dl' wt).1), nextD h' dl' (tellW k c' h' dl' (wishF g' dl' wt).1), (wishF g' dl' wt).2)
          else (tellW k c' h' dl' (wishF g' dl' wt).1 :: (ledF k c' wt (turnsG g - (x + 1)) (nextH h' (tellW k c' h' dl' (wishF g' dl' wt).1)) (nextD h' dl' (tellW k c' h' dl' (wishF g' dl' wt).1)) (wishF g' dl' wt).2).1, (ledF k c' wt (turnsG g - (x + 1)) (nextH h' (tellW k c' h' dl' (wishF g' dl' wt).1)) (nextD h' dl' (tellW k c' h' dl' (wishF g' dl' wt).1)) (wishF g' dl' wt).2).2) := by simp only [ledF]
      rw [hstep] at hE
      refine ⟨_, _, (xg_n C 6 rfl rfl (lt_of rfl)), ?_⟩
      refine xss_set C 7 rfl rfl (xn (xe_callH c_L_wish hr (by decide) C 2 rfl 0 rfl rfl rfl (xa_cons (xe_v C 2 rfl rfl rfl) (xa_cons xe_int (xa_cons (xe_v C 3 rfl rfl rfl) xa_nil))) rfl (argc_ds _ [_, _, _]) (.mk hg' o' (by omega) (by omega)) w3)) ?_ (lt_of rfl)
      refine xss_par (x := .bl (tellW k c' h' dl' (wishF g' dl' wt).1).flag) (y := .bl (tellW k c' h' dl' (wishF g' dl' wt).1).due) C 8 9 rfl rfl (by decide) (by decide +kernel) (by decide +kernel) rfl (by intro env h1 h2 h3; unfold swappedStores; simp only [h1, h2, h3, Expr.pos, List.length_cons, List.length_nil, List.filterMap_cons, List.filterMap_nil, List.head?_cons, Option.map_some, Option.getD_some]; with_unfolding_all rfl) (xa_cons (xn (xe_call c_L_lets hr (by decide) C 3 rfl (xa_cons (xe_v C 1 rfl rfl rfl) (xa_cons (xe_v C 2 rfl rfl rfl) (xa_cons (xe_v C 7 rfl rfl rfl) xa_nil))) (argc_ds _ [_, _, _]) (.mk o' w1))) (xa_cons (xn (xe_call c_L_fine hr (by decide) C 4 rfl (xa_cons (xn (xe_call c_L_behind hr (by decide) C 5 rfl (xa_cons (xe_v C 2 rfl rfl rfl) (xa_cons (xe_v C 7 rfl rfl rfl) xa_nil)) (argc_ds _ [_, _]) (.mk o' w1))) xa_nil) (argc_ds _ [_]) (.mk (bh_ok o' w1)))) xa_nil)) ?_ (lt_of rfl) (lt_of rfl)
      have hw : (tellW k c' h' dl' (wishF g' dl' wt).1).w = (wishF g' dl' wt).1 := rfl
      generalize ht : tellW k c' h' dl' (wishF g' dl' wt).1 = t at hE o2 l2 hw ⊢
      generalize (wishF g' dl' wt).2 = g2 at w2 w3 hE ⊢
      rw [← hw] at w1 ⊢
      refine xss_app C 4 rfl rfl rfl (xe_v C 7 rfl rfl rfl) rfl (lf_wish _) (by rw [List.length_map]; omega) ?_
      refine xss_app C 5 rfl rfl rfl (xe_tup (ds := [t.w.enc, .bl t.flag, .str (wordOf t.flag t.due)]) (xa_cons (xe_v C 7 rfl rfl rfl) (xa_cons (xe_v C 8 rfl rfl rfl) (xa_cons (xe_if (xt_eq (xe_v C 8 rfl rfl rfl) (xe_v C 9 rfl rfl rfl) opd_eqB) (fun hq => xe_to xe_str (by unfold wordOf; rw [if_pos (by simpa using hq)])) (fun hq => (xe_if (xt_v (xe_v C 9 rfl rfl rfl)) (fun hq2 => xe_to xe_str (by unfold wordOf; rw [if_neg (by simpa using hq), if_pos hq2])) (fun hq2 => xe_to xe_str (by unfold wordOf; rw [if_neg (by simpa using hq), if_neg (by rw [hq2]; simp)]))))) xa_nil))) (le_of rfl)) rfl (lf_told t) (by rw [List.length_map]; omega) ?_
      have E1 : List.map (fun t : Told => t.w.enc) acc ++ [t.w.enc] = List.map (fun t : Told => t.w.enc) (acc ++ [t]) := by simp
      have E2 : List.map Told.enc acc ++ [D.tup [t.w.enc, .bl t.flag, .str (wordOf t.flag t.due)]] = List.map Told.enc (acc ++ [t]) := by simp [Told.enc]
      rw [E1, E2]
      refine xss_if (Mid := fun δ => δ = [some (.hd p c g2), some (.im (.int k)), some (.im (prt c' (nextH h' t) (nextD h' dl' t))), some (.im (.bl wt)), some (.ml lw (List.map (fun t : Told => t.w.enc) (acc ++ [t]))), some (.ml lf (List.map Told.enc (acc ++ [t]))), some (.im (.int (x : Nat))), some (.im t.w.enc), some (.im (.bl t.flag)), some (.im (.bl t.due))]) (xt_v (xe_v C 8 rfl rfl rfl)) (fun hf => ?_) (fun hf => ?_) (fun δ hδ => ?_)
      · refine xss_set C 2 rfl rfl (xn (xe_call c_L_behind hr (by decide) C 5 rfl (xa_cons (xe_v C 2 rfl rfl rfl) (xa_cons (xe_v C 7 rfl rfl rfl) xa_nil)) (argc_ds _ [_, _]) (.mk o' w1))) (xss_nil ?_) (lt_of rfl)
        unfold nextH nextD
        rw [if_pos hf, if_pos hf]
        rfl
      · refine xss_nil ?_
        unfold nextH nextD
        rw [if_neg (by rw [hf]; simp), if_neg (by rw [hf]; simp)]
        rfl
      · subst hδ
        refine xss_if0 (p := t.free) (xw (xw_and2 (xt_v (xe_v C 8 rfl rfl rfl)) (fun _ => (xt_not (xt_v (xe_v C 9 rfl rfl rfl)))))) (fun hfr => ?_) (fun hfr => ?_)
        · rw [if_pos hfr] at hE
          refine xss_brk ⟨some (.im (.int (x : Nat))), some (.im t.w.enc), some (.im (.bl t.flag)), some (.im (.bl t.due)), ?_⟩
          rw [hE]
        · rw [if_neg (by rw [hfr]; simp)] at hE
          refine xss_nil ⟨acc ++ [t], nextH h' t, nextD h' dl' t, g2, _, _, _, _, rfl, o2, w2, by omega, by simp [ha], ?_⟩
          rw [hE]
          simp
    · obtain ⟨acc, h', dl', g', x6, x7, x8, x9, rfl, o', hg', hl', ha, hE⟩ := hI
      rw [natsD_len, List.length_range, Nat.sub_self] at hE
      refine ⟨x6, x7, x8, x9, ?_⟩
      rw [hE]
      simp [ledF]
    · subst e
      exact xss_rett (k1 := 4) (k2 := 5) (xa_cons (xe_m C 4 rfl rfl rfl rfl) (xa_cons (xe_m C 5 rfl rfl rfl rfl) (xa_cons (xe_v C 2 rfl rfl rfl) xa_nil))) rfl rfl ⟨rfl, rfl⟩ (lf_prt _ _ _)
theorem c_L_led (D : Df K mg "_law_led" s_L_led) (hg : Glb mg) (c_L_draw : CalP P w K mg base 1 "_law_draw" (spH CS R_L_draw)) (c_L_wish : CalP P w K mg base 3 "_law_wish" (spH CS R_L_wish)) (c_L_lets : CalP P w K mg base 5 "_law_lets" (spD CS R_L_lets)) (c_L_fine : CalP P w K mg base 5 "_law_fine" (spD CS R_L_fine)) (c_L_behind : CalP P w K mg base 2 "_law_behind" (spD CS R_L_behind)) : CalP P w K mg base 6 "_law_led" (spH CS R_L_led) :=
  mkH D hg sc_L_led ok_L_led (by intro _ _ _ _ h; cases h <;> rfl) (fun X hX C hr p c g ds r g' hR hc => b_L_led C hr (hX.cal c_L_draw) (hX.cal c_L_wish) (hX.cal c_L_lets) (hX.cal c_L_fine) (hX.cal c_L_behind) hR hc) (fun f fd F => F.binds fun _ _ _ _ _ _ us hl => match us, hl with | [_, _, _, _], _ => rfl)
end K06
/-! D15: watched. -/
namespace K06
open PySem PySem.Spec L2
variable {P : Program} {w : World} {K : PySem.W.Frag} {mg : Str → Option Value} {base : Heap} {CS : Addr} {X : Cx}
/-- the keeper is called -/
def KeepC (X : Cx) (CS : Addr) (f cc : Addr) (oc : HO) (k : Int) : Prop := ∀ (δ : Sto) (b c h : Int) (dl : List Deed) (w : Wish) (p pos p1 p2 : Pos) (n1 n2 : Str), δ[0]? = some (some (.im (.obj f cc oc))) → XA X CS [.Name n1 p1, .Name n2 p2] δ [.d (.std c h (encDs dl)), .d w.enc] δ → Ok b h dl → OkW b dl w →
  XE X CS (.Call (.Name "keeper" p) [.Name n1 p1, .Name n2 p2] [] pos) δ (.n (.bl (letsB k c (h + more w) (bh h dl w)))) δ
theorem b_watched (C : Ctx X (defScope s_watched) N_watched V_watched V_watched G_watched) (hr : Room 11 X.A) (m1 : CstS X.mg "SAME" "") (m2 : CstS X.mg "SHY" "shy") (m3 : CstS X.mg "FREE" "free")
    (c_check_easy : CalX X 6 "check_easy" (spD CS R_check_easy)) (c_is_listed : CalX X 1 "is_listed" (spD CS R_is_listed)) (c_is_wish : CalX X 5 "is_wish" (spD CS R_is_wish)) (c_let_by : CalX X 11 "let_by" (spD CS R_let_by)) (c_behind_of : CalX X 10 "behind_of" (spD CS R_behind_of))
    {f cc : Addr} {oc : HO} {k c b h : Int} {dl : List Deed} {ws : List Wish} {W : D} (hk : KeepC X CS f cc oc k) (hW : W = .lst (ws.map Wish.enc) ∨ W = .tup (ws.map Wish.enc)) (ok : Ok b h dl) (hf : fineB c h dl = true) (ch : Chain k c b h dl ws) (hb : b ≤ 1000) (hl : ws.length ≤ 100) :
    XSs X CS (defBody s_watched) (startD N_watched [.im (.obj f cc oc), .im (.std c h (encDs dl)), .im W]) (Pr (.lst ((watF k c h dl ws).map Told.enc))) := by
  have hlist : R_is_listed [W] (.bl true) := by
    rcases hW with rfl | rfl
    · exact .inl ⟨_, rfl, rfl⟩
    · exact .inr ⟨_, rfl, rfl⟩
  have hit : ∀ {δ : Sto} {tg : Expr} {pos : Pos}, δ[2]? = some (some (.im W)) → XI X CS tg (.Name "wishes" pos) δ (ws.map Wish.enc) δ := fun {δ tg pos} h2 => by
    rcases hW with rfl | rfl
    · exact xi_l (xe_v C 2 rfl rfl h2) rfl
    · exact xi_t (xe_v C 2 rfl rfl h2) rfl
  refine xss_do (xe_call c_check_easy hr (by decide) C 0 rfl (xa_cons (xe_v C 1 rfl rfl rfl) xa_nil) (argc_ds _ [_]) (.mk ok hf)) ?_
  refine xss_if0 (xt_not (xt_v (xn (xe_call c_is_listed hr (by decide) C 1 rfl (xa_cons (xe_v C 2 rfl rfl rfl) xa_nil) (argc_ds _ [_]) hlist)))) (by intro z; cases z) (fun _ => ?_)
  refine xss_setL C 3 rfl rfl (xe_lst (ds := []) xa_nil (le_of rfl) rfl) rfl (fun lf => ?_) (lt_of rfl)
  refine xss_set C 4 rfl rfl (xe_v C 1 rfl rfl rfl) ?_ (lt_of rfl)
  refine xss_for C (hit rfl) (fun i δ => ∃ acc h' dl' x5 x6 x7, δ = [some (.im (.obj f cc oc)), some (.im (.std c h (encDs dl))), some (.im W), some (.ml lf (List.map Told.enc acc)), some (.im (.std c h' (encDs dl'))), x5, x6, x7] ∧ Chain k c (b + 5 * (i : Nat)) h' dl' (ws.drop i) ∧ acc.length = i ∧ watF k c h dl ws = acc ++ watF k c h' dl' (ws.drop i))
    _ ⟨[], h, dl, none, none, none, rfl, by simpa using ch, rfl, rfl⟩ (fun i d δ hd hI => ?_) (fun δ z => z) (fun δ hI => ?_)
  · obtain ⟨acc, h', dl', x5, x6, x7, rfl, ch', ha, hE⟩ := hI
    rw [List.getElem?_map] at hd
    cases q : ws[i]? with
    | none => rw [q] at hd; cases hd
    | some w =>
      rw [q] at hd
      have : d = w.enc := (Option.some.inj hd).symm
      subst this
      have hil : i < ws.length := (List.getElem?_eq_some_iff.mp q).1
      have hdrop : ws.drop i = w :: ws.drop (i + 1) := by
        rw [List.drop_eq_getElem_cons hil]
        congr 1
        exact (List.getElem?_eq_some_iff.mp q).2
      rw [hdrop] at ch' hE
      have hb5 : b + 5 * ((i : Nat) : Int) + 5 = b + 5 * ((i + 1 : Nat) : Int) := by omega
      cases ch' with
      | @cons _ _ _ _ _ o1 ow hnext =>
        rw [hb5] at hnext
        have hstep : watF k c h' dl' (w :: ws.drop (i + 1)) = if (tellW k c h' dl' w).free = true then [tellW k c h' dl' w] else tellW k c h' dl' w :: watF k c (nextH h' (tellW k c h' dl' w)) (nextD h' dl' (tellW k c h' dl' w)) (ws.drop (i + 1)) := by simp only [watF]
        rw [hstep] at hE
        refine ⟨_, _, (xg_n C 5 rfl rfl (lt_of rfl)), ?_⟩
        refine xss_if0 (xt_not (xt_v (xn (xe_call c_is_wish hr (by decide) C 3 rfl (xa_cons (xe_v C 4 rfl rfl rfl) (xa_cons (xe_v C 5 rfl rfl rfl) xa_nil)) (argc_ds _ [_, _]) (.mk o1 ow (by omega)))))) (by intro z; cases z) (fun _ => ?_)
        refine xss_set (x := .bl (tellW k c h' dl' w).flag) C 6 rfl rfl (xn (hk _ _ c h' dl' w _ _ _ _ _ _ rfl (xa_cons (xe_v C 4 rfl rfl rfl) (xa_cons (xe_v C 5 rfl rfl rfl) xa_nil)) o1 ow)) ?_ (lt_of rfl)
        refine xss_if0 (xt_not (xt_v (xe_isi C 4 rfl (xe_v C 6 rfl rfl rfl) (xe_bt (T := "bool") C 5 rfl C.glb.bool (by decide +kernel)) (q := true) rfl (by decide +kernel)))) (by intro z; cases z) (fun _ => ?_)
        refine xss_set (x := .bl (tellW k c h' dl' w).due) C 7 rfl rfl (xn (xe_call c_let_by hr (by decide) C 7 rfl (xa_cons (xe_v C 4 rfl rfl rfl) (xa_cons (xe_v C 5 rfl rfl rfl) xa_nil)) (argc_ds _ [_, _]) (.mk o1 ow))) ?_ (lt_of rfl)
        have hw : (tellW k c h' dl' w).w = w := rfl
        generalize ht : tellW k c h' dl' w = t at hE hnext hw ⊢
        rw [← hw] at ow ⊢
        refine xss_app C 3 rfl rfl rfl (xe_tup (ds := [t.w.enc, .bl t.flag, .str (wordOf t.flag t.due)]) (xa_cons (xe_v C 5 rfl rfl rfl) (xa_cons (xe_v C 6 rfl rfl rfl) (xa_cons (xe_if (xt_eq (xe_v C 6 rfl rfl rfl) (xe_v C 7 rfl rfl rfl) opd_eqB) (fun hq => xe_to (xe_gs C m1 8 rfl) (by unfold wordOf; rw [if_pos (by simpa using hq)])) (fun hq => (xe_if (xt_v (xe_v C 7 rfl rfl rfl)) (fun hq2 => xe_to (xe_gs C m2 9 rfl) (by unfold wordOf; rw [if_neg (by simpa using hq), if_pos hq2])) (fun hq2 => xe_to (xe_gs C m3 10 rfl) (by unfold wordOf; rw [if_neg (by simpa using hq), if_neg (by rw [hq2]; simp)]))))) xa_nil))) (le_of rfl)) rfl (lf_told t) (by rw [List.length_map]; omega) ?_
        have E2 : List.map Told.enc acc ++ [D.tup [t.w.enc, .bl t.flag, .str (wordOf t.flag t.due)]] = List.map Told.enc (acc ++ [t]) := by simp [Told.enc]
        rw [E2]
        refine xss_if0 (p := t.free) (xw (xw_and2 (xt_v (xe_v C 6 rfl rfl rfl)) (fun _ => (xt_not (xt_v (xe_v C 7 rfl rfl rfl)))))) (fun hfr => ?_) (fun hfr => ?_)
        · rw [if_pos hfr] at hE
          exact xss_retm (k := 3) (xe_m C 3 rfl rfl rfl rfl) rfl (by show D.lst _ = D.lst _; rw [hE]) (lf_tolds _)
        · rw [if_neg (by rw [hfr]; simp)] at hE
          have hn := hnext hfr
          refine xss_if (Mid := fun δ => δ = [some (.im (.obj f cc oc)), some (.im (.std c h (encDs dl))), some (.im W), some (.ml lf (List.map Told.enc (acc ++ [t]))), some (.im (.std c (nextH h' t) (encDs (nextD h' dl' t)))), some (.im t.w.enc), some (.im (.bl t.flag)), some (.im (.bl t.due))]) (xt_v (xe_v C 6 rfl rfl rfl)) (fun hfl => ?_) (fun hfl => ?_) (fun δ hδ => ?_)
          · refine xss_set C 4 rfl rfl (xn (xe_call c_behind_of hr (by decide) C 11 rfl (xa_cons (xe_v C 4 rfl rfl rfl) (xa_cons (xe_v C 5 rfl rfl rfl) xa_nil)) (argc_ds _ [_, _]) (.mk o1 ow))) (xss_nil ?_) (lt_of rfl)
            unfold nextH nextD
            rw [if_pos hfl, if_pos hfl]
            rfl
          · refine xss_nil ?_
            unfold nextH nextD
            rw [if_neg (by rw [hfl]; simp), if_neg (by rw [hfl]; simp)]
            rfl
          · subst hδ
            refine xss_nil ⟨acc ++ [t], nextH h' t, nextD h' dl' t, _, _, _, rfl, hn, by simp [ha], ?_⟩
            rw [hE]
            simp
  · obtain ⟨acc, h', dl', x5, x6, x7, rfl, ch', ha, hE⟩ := hI
    rw [List.length_map, List.drop_length] at hE
    refine xss_retm (k := 3) (xe_m C 3 rfl rfl rfl rfl) rfl (by show D.lst _ = D.lst _; rw [hE]; simp [watF]) (lf_tolds _)
end K06
/-! M11: the order in which deeds go; plain Lean. -/
namespace K06
/-- those for whom one waits that are not gone -/
def leftL (ws : List (List Nat)) (f : List Nat) (x : Nat) : List Nat := (ws.getD x []).filter fun o => !decide (o ∈ f)
/-- a turn: the waiting, the gone -/
def goStep (ws : List (List Nat)) (w : List Nat) (here : Nat) (f : List Nat) : List Nat × List Nat :=
  if here ∈ f then (w, f) else match leftL ws f here with
    | y :: _ => (w ++ [here] ++ [y], f)
    | [] => (w ++ [here], f ++ [here])
def goIn (ws : List (List Nat)) : Nat → List Nat → List Nat → List Nat
  | 0, _, f => f
  | n + 1, w, f => if w = [] then f else goIn ws n (goStep ws w.dropLast (w.getLastD 0) f).1 (goStep ws w.dropLast (w.getLastD 0) f).2
def goOut (ws : List (List Nat)) : Nat → List Nat
  | 0 => []
  | i + 1 => goIn ws (3 * ws.length + 2) [i] (goOut ws i)
theorem goIn_nil (ws : List (List Nat)) (n : Nat) (f : List Nat) : goIn ws n [] f = f := by cases n <;> simp [goIn]
theorem goIn_succ (ws : List (List Nat)) (n : Nat) (w : List Nat) (x : Nat) (f : List Nat) : goIn ws (n + 1) (w ++ [x]) f = goIn ws n (goStep ws w x f).1 (goStep ws w x f).2 := by
  rw [goIn, if_neg (by simp)]
  simp
/-- the gone: each behind those for whom it waits -/
structure GF (ws : List (List Nat)) (f : List Nat) : Prop where
  nd : f.Nodup
  lt : ∀ x ∈ f, x < ws.length
  bh : ∀ (p x : Nat), f[p]? = some x → ∀ l, ws[x]? = some l → ∀ j ∈ l, j ∈ f.take p
/-- .. and the waiting, for the deed i -/
structure GI (rk : Nat → Nat) (ws : List (List Nat)) (i : Nat) (f0 w f : List Nat) : Prop where
  g : GF ws f
  up : w.Pairwise fun a b => rk b < rk a
  wl : ∀ x ∈ w, x < ws.length
  rcw : ∀ x ∈ w, Reach ws (List.range (i + 1)) x
  rcf : ∀ x ∈ f, Reach ws (List.range (i + 1)) x
  it : i ∈ f ∨ i ∈ w
  pre : f0 <+: f
def mu (n : Nat) (w f : List Nat) : Nat := 2 * (n - f.length) + (n - f.length - (w.filter fun x => !decide (x ∈ f)).length) + (w.filter fun x => decide (x ∈ f)).length
theorem GI.fl {rk : Nat → Nat} {ws : List (List Nat)} {i : Nat} {f0 w f : List Nat} (h : GI rk ws i f0 w f) : f.length + (w.filter fun x => !decide (x ∈ f)).length ≤ ws.length := by
  have ndw : w.Nodup := h.up.imp fun {a b} z => fun e => by rw [e] at z; exact Nat.lt_irrefl _ z
  have nd : (f ++ w.filter fun x => !decide (x ∈ f)).Nodup := by
    rw [List.nodup_append]
    refine ⟨h.g.nd, ndw.filter _, fun a ha b hb e => ?_⟩
    have := (List.mem_filter.mp hb).2
    rw [← e] at this
    simp [ha] at this
  have := nodup_len (n := ws.length) nd fun x hx => by
    rcases List.mem_append.mp hx with z | z
    · exact h.g.lt x z
    · exact h.wl x (List.mem_filter.mp z).1
  rw [List.length_append] at this
  exact this
theorem getD_ws {ws : List (List Nat)} {x : Nat} (h : x < ws.length) : ws[x]? = some (ws.getD x []) := by
  rw [List.getD_eq_getElem?_getD, List.getElem?_eq_getElem h]
  rfl
theorem GI.step {rk : Nat → Nat} {ws : List (List Nat)} {i : Nat} {f0 w f : List Nat} {x : Nat} (hw : WfW ws) (hr : ∀ (i : Nat) (l : List Nat), ws[i]? = some l → ∀ j ∈ l, rk j < rk i) (h : GI rk ws i f0 (w ++ [x]) f) :
    GI rk ws i f0 (goStep ws w x f).1 (goStep ws w x f).2 ∧ mu ws.length (goStep ws w x f).1 (goStep ws w x f).2 < mu ws.length (w ++ [x]) f := by
  have hx : x < ws.length := h.wl x (by simp)
  have hfl := h.fl
  have upw : w.Pairwise fun a b => rk b < rk a := (List.pairwise_append.mp h.up).1
  have lastw : ∀ a ∈ w, rk x < rk a := fun a ha => (List.pairwise_append.mp h.up).2.2 a ha x (by simp)
  have hxw : x ∉ w := fun z => Nat.lt_irrefl _ (lastw x z)
  unfold goStep
  by_cases q : x ∈ f
  · rw [if_pos q]
    refine ⟨⟨h.g, upw, fun y hy => h.wl y (by simp [hy]), fun y hy => h.rcw y (by simp [hy]), h.rcf, ?_, h.pre⟩, ?_⟩
    · rcases h.it with z | z
      · exact .inl z
      · rcases List.mem_append.mp z with y | y
        · exact .inr y
        · exact .inl (by rw [List.mem_singleton.mp y]; exact q)
    · unfold mu
      simp only
      rw [List.filter_append, List.filter_append, List.filter_cons_of_neg (by simp [q]), List.filter_nil, List.filter_cons_of_pos (by simp [q]), List.filter_nil, List.append_nil, List.length_append, List.length_singleton]
      omega
  · rw [if_neg q]
    cases hl : leftL ws f x with
    | cons y r =>
      have hy : y ∈ leftL ws f x := by rw [hl]; simp
      obtain ⟨hy1, hy2⟩ := List.mem_filter.mp hy
      have hyf : y ∉ f := by simpa using hy2
      have hyl := hw x _ (getD_ws hx) y hy1
      have hrk := hr x _ (getD_ws hx) y hy1
      simp only
      have hI : GI rk ws i f0 (w ++ [x] ++ [y]) f := by
        refine ⟨h.g, ?_, fun z hz => ?_, fun z hz => ?_, h.rcf, ?_, h.pre⟩
        · rw [List.pairwise_append]
          refine ⟨h.up, List.pairwise_singleton _ _, fun a ha b hb => ?_⟩
          rw [List.mem_singleton.mp hb]
          rcases List.mem_append.mp ha with z | z
          · exact Nat.lt_trans hrk (lastw a z)
          · rw [List.mem_singleton.mp z]; exact hrk
        · rcases List.mem_append.mp hz with t | t
          · exact h.wl z t
          · rw [List.mem_singleton.mp t]; exact hyl
        · rcases List.mem_append.mp hz with t | t
          · exact h.rcw z t
          · rw [List.mem_singleton.mp t]; exact .step (h.rcw x (by simp)) (getD_ws hx) hy1
        · rcases h.it with z | z
          · exact .inl z
          · exact .inr (List.mem_append_left _ z)
      refine ⟨hI, ?_⟩
      have := hI.fl
      unfold mu
      rw [List.filter_append (p := fun x => !decide (x ∈ f)) (l₂ := [y]), List.filter_append (p := fun x => decide (x ∈ f)) (l₂ := [y])] at *
      rw [List.filter_cons_of_pos (by simp [hyf]), List.filter_nil, List.length_append, List.length_singleton] at *
      rw [List.filter_cons_of_neg (by simp [hyf]), List.filter_nil, List.append_nil]
      omega
    | nil =>
      have hall : ∀ j ∈ ws.getD x [], j ∈ f := fun j hj => by
        refine Classical.byContradiction fun z => ?_
        have : j ∈ leftL ws f x := List.mem_filter.mpr ⟨hj, by simp [z]⟩
        rw [hl] at this
        cases this
      simp only
      have hI : GI rk ws i f0 (w ++ [x]) (f ++ [x]) := by
        refine ⟨⟨(List.perm_append_singleton x f).nodup_iff.mpr (List.nodup_cons.mpr ⟨q, h.g.nd⟩), fun z hz => ?_, fun p z hz l hl' j hj => ?_⟩, h.up, h.wl, h.rcw, fun z hz => ?_, ?_, ?_⟩
        · rcases List.mem_append.mp hz with t | t
          · exact h.g.lt z t
          · rw [List.mem_singleton.mp t]; exact hx
        · by_cases hp : p < f.length
          · rw [List.getElem?_append_left hp] at hz
            rw [List.take_append_of_le_length (by omega)]
            exact h.g.bh p z hz l hl' j hj
          · have hpl : p = f.length := by
              have := (List.getElem?_eq_some_iff.mp hz).1
              rw [List.length_append, List.length_singleton] at this
              omega
            subst hpl
            rw [List.getElem?_concat_length] at hz
            have : x = z := Option.some.inj hz
            subst this
            rw [getD_ws hx] at hl'
            have := Option.some.inj hl'
            rw [List.take_left]
            exact hall j (this ▸ hj)
        · rcases List.mem_append.mp hz with t | t
          · exact h.rcf z t
          · rw [List.mem_singleton.mp t]; exact h.rcw x (by simp)
        · rcases h.it with z | z
          · exact .inl (List.mem_append_left _ z)
          · exact .inr z
        · exact h.pre.trans (List.prefix_append _ _)
      refine ⟨hI, ?_⟩
      have ew1 : (w.filter fun z => !decide (z ∈ f ++ [x])) = w.filter fun z => !decide (z ∈ f) := List.filter_congr fun z hz => by
        have : z ≠ x := fun e => hxw (e ▸ hz)
        simp [this]
      have ew2 : (w.filter fun z => decide (z ∈ f ++ [x])) = w.filter fun z => decide (z ∈ f) := List.filter_congr fun z hz => by
        have : z ≠ x := fun e => hxw (e ▸ hz)
        simp [this]
      have e1 : ((w ++ [x]).filter fun z => !decide (z ∈ f)).length = (w.filter fun z => !decide (z ∈ f)).length + 1 := by
        rw [List.filter_append, List.filter_cons_of_pos (by simp [q]), List.filter_nil, List.length_append, List.length_singleton]
      have e2 : ((w ++ [x]).filter fun z => decide (z ∈ f)).length = (w.filter fun z => decide (z ∈ f)).length := by
        rw [List.filter_append, List.filter_cons_of_neg (by simp [q]), List.filter_nil, List.append_nil]
      have e3 : ((w ++ [x]).filter fun z => !decide (z ∈ f ++ [x])).length = (w.filter fun z => !decide (z ∈ f)).length := by
        rw [List.filter_append, List.filter_cons_of_neg (by simp), List.filter_nil, List.append_nil, ew1]
      have e4 : ((w ++ [x]).filter fun z => decide (z ∈ f ++ [x])).length = (w.filter fun z => decide (z ∈ f)).length + 1 := by
        rw [List.filter_append, List.filter_cons_of_pos (by simp), List.filter_nil, List.length_append, List.length_singleton, ew2]
      unfold mu
      rw [e1, e2, e3, e4, List.length_append, List.length_singleton]
      rw [e1] at hfl
      omega
/-- the inner turns come to an end -/
theorem goIn_end {rk : Nat → Nat} {ws : List (List Nat)} {i : Nat} {f0 : List Nat} (hw : WfW ws) (hr : ∀ (i : Nat) (l : List Nat), ws[i]? = some l → ∀ j ∈ l, rk j < rk i) : ∀ (n : Nat) {w f : List Nat}, GI rk ws i f0 w f → mu ws.length w f ≤ n → GI rk ws i f0 [] (goIn ws n w f)
  | n, w, f, h, hn => by
    rcases List.eq_nil_or_concat w with e | ⟨w', x, e⟩
    · subst e
      rw [goIn_nil]
      exact h
    · rw [e] at h hn ⊢
      have e2 : w'.concat x = w' ++ [x] := List.concat_eq_append
      rw [e2] at h hn ⊢
      obtain ⟨h1, h2⟩ := h.step hw hr
      match n with
      | 0 => omega
      | n + 1 =>
        rw [goIn_succ]
        exact goIn_end hw hr n h1 (by omega)
theorem GI.start {rk : Nat → Nat} {ws : List (List Nat)} {i : Nat} {f : List Nat} (hi : i < ws.length) (g : GF ws f) (rc : ∀ x ∈ f, Reach ws (List.range i) x) : GI rk ws i f [i] f := by
  refine ⟨g, List.pairwise_singleton _ _, fun x hx => by rw [List.mem_singleton.mp hx]; exact hi, fun x hx => ?_, fun x hx => ?_, .inr (by simp), List.prefix_refl _⟩
  · rw [List.mem_singleton.mp hx]
    exact .base (List.mem_range.mpr (Nat.lt_succ_self _))
  · exact (rc x hx).mono fun y hy => .base (List.mem_range.mpr (by have := List.mem_range.mp hy; omega))
theorem mu_start (n i : Nat) (f : List Nat) : mu n [i] f ≤ 3 * n + 1 := by
  unfold mu
  by_cases q : i ∈ f
  · rw [List.filter_cons_of_neg (by simp [q]), List.filter_cons_of_pos (by simp [q])]
    simp only [List.filter_nil, List.length_nil, List.length_singleton]
    omega
  · rw [List.filter_cons_of_pos (by simp [q]), List.filter_cons_of_neg (by simp [q])]
    simp only [List.filter_nil, List.length_nil, List.length_singleton]
    omega
/-- behind so many deeds -/
structure GOk (ws : List (List Nat)) (i : Nat) (f : List Nat) : Prop where
  g : GF ws f
  rc : ∀ x ∈ f, Reach ws (List.range i) x
  all : ∀ j, j < i → j ∈ f
theorem goOut_ok {ws : List (List Nat)} (hw : WfW ws) (ha : Acyc ws) : ∀ i, i ≤ ws.length → GOk ws i (goOut ws i) ∧ ∀ j, j ≤ i → goOut ws j <+: goOut ws i
  | 0, _ => ⟨⟨⟨List.nodup_nil, by simp [goOut], by simp [goOut]⟩, by simp [goOut], fun j hj => absurd hj (Nat.not_lt_zero _)⟩, fun j hj => by rw [Nat.le_zero.mp hj]; exact List.prefix_refl _⟩
  | i + 1, hi => by
    obtain ⟨rk, hr⟩ := ha
    obtain ⟨g, gp⟩ := goOut_ok hw ⟨rk, hr⟩ i (by omega)
    have h := goIn_end hw hr (3 * ws.length + 2) (GI.start (rk := rk) (i := i) (by omega) g.g g.rc) (Nat.le_succ_of_le (mu_start _ _ _))
    refine ⟨⟨h.g, h.rcf, fun j hj => ?_⟩, fun j hj => ?_⟩
    · by_cases e : j = i
      · subst e
        rcases h.it with z | z
        · exact z
        · simp at z
      · exact h.pre.subset (g.all j (by omega))
    · by_cases e : j = i + 1
      · rw [e]; exact List.prefix_refl _
      · exact (gp j (by omega)).trans h.pre
/-- the order: all of them, each behind those for whom it waits -/
theorem goOut_all {ws : List (List Nat)} (hw : WfW ws) (ha : Acyc ws) : GF ws (goOut ws ws.length) ∧ (goOut ws ws.length).Perm (List.range ws.length) := by
  obtain ⟨g, _⟩ := goOut_ok hw ha ws.length (Nat.le_refl _)
  exact ⟨g.g, perm_of g.g.nd List.nodup_range fun k => ⟨fun h => List.mem_range.mpr (g.g.lt k h), fun h => g.all k (List.mem_range.mp h)⟩⟩
/-- those gone with the p-th are of one deed's claim, and all elder ones are gone before -/
theorem goOut_at {ws : List (List Nat)} (hw : WfW ws) (ha : Acyc ws) {p : Nat} (hp : p < (goOut ws ws.length).length) : ∃ i, i < ws.length ∧ (∀ j, j < i → j ∈ (goOut ws ws.length).take p) ∧ ∀ x ∈ (goOut ws ws.length).take (p + 1), Reach ws (List.range (i + 1)) x := by
  have hall := goOut_ok hw ha
  have ex : ∀ n, n ≤ ws.length → p < (goOut ws n).length → ∃ i, i < n ∧ (goOut ws i).length ≤ p ∧ p < (goOut ws (i + 1)).length := fun n => by
    induction n with
    | zero => intro _ h; simp [goOut] at h
    | succ n ih =>
      intro hn h
      by_cases q : p < (goOut ws n).length
      · obtain ⟨i, h1, h2, h3⟩ := ih (by omega) q
        exact ⟨i, by omega, h2, h3⟩
      · exact ⟨n, by omega, by omega, h⟩
  obtain ⟨i, h1, h2, h3⟩ := ex ws.length (Nat.le_refl _) hp
  obtain ⟨g1, _⟩ := hall i (by omega)
  obtain ⟨g2, _⟩ := hall (i + 1) (by omega)
  obtain ⟨_, gp⟩ := hall ws.length (Nat.le_refl _)
  refine ⟨i, h1, fun j hj => ?_, fun x hx => ?_⟩
  · obtain ⟨t, ht⟩ := gp i (by omega)
    rw [← ht, List.take_append, List.take_of_length_le h2]
    exact List.mem_append_left _ (g1.all j hj)
  · obtain ⟨t, ht⟩ := gp (i + 1) (by omega)
    rw [← ht, List.take_append_of_le_length (by omega)] at hx
    exact g2.rc x (List.mem_of_mem_take hx)
end K06
/-! D16: courses. -/
namespace K06
open PySem PySem.Spec L2
variable {P : Program} {w : World} {K : PySem.W.Frag} {mg : Str → Option Value} {base : Heap} {CS : Addr} {X : Cx}
/-- an expression as a statement -/
theorem xss_doR {e : Expr} {rest : List Stmt} {P' : Post} {δ δ1 : Sto} {r : Res} {pos : Pos} (h : XE X CS e δ r δ1) (h2 : XSs X CS rest δ1 P') (hs : swapsWith e none pos.line X.env = pure false := by rfl) : XSs X CS (.Expr e pos :: rest) δ P' :=
  pss_weak (pss_cons (ps_expr h hs) h2) fun D σ H ⟨A, B, s, kk⟩ => ⟨A, B, s, fun v H1 e1 s1 q1 => tS_step (P := P') e1 s1 kk⟩
theorem kvT_some (f : List Nat) (j : Nat) : ((kvT f).lookup ((j : Nat) : Int)).isSome = decide (j ∈ f) := by
  rw [kvT_look]
  by_cases q : j ∈ f
  · rw [if_pos q, decide_eq_true q]; rfl
  · rw [if_neg q, decide_eq_false q]; rfl
inductive R_going_order : List D → D → Prop
  | mk {b c h : Int} {dl : List Deed} : Ok b h dl → R_going_order [.std c h (encDs dl)] (.lst (natsD (goOut (wts dl) dl.length)))
theorem b_going_order (C : Ctx X (defScope s_going_order) N_going_order V_going_order V_going_order G_going_order) (hr : Room 1 X.A) (c_waits_of : CalX X 1 "waits_of" (spD CS R_waits_of)) {ds : List D} {r : D} (hR : R_going_order ds r) :
    XSs X CS (defBody s_going_order) (startD N_going_order (ds.map Slot.im)) (Pr r) := by
  have hu : X.A.units + 1 < cLine := hu_of hr
  cases hR with
  | @mk b c h dl o =>
    have hlen := o.len
    have hwl := wts_len dl
    obtain ⟨rk, hrk⟩ := o.ac
    have hall := goOut_ok o.wf ⟨rk, hrk⟩
    refine xss_set C 1 rfl rfl (xn (xe_call c_waits_of hr (by decide) C 0 rfl (xa_cons (xe_v C 0 rfl rfl rfl) xa_nil) (argc_ds _ [_]) (.mk o.len))) ?_ (lt_of rfl)
    refine xss_setL C 2 rfl rfl (xe_lst (ds := []) xa_nil (le_of rfl) rfl) rfl (fun lf => ?_) (lt_of rfl)
    refine xss_setD C 3 rfl rfl (fun lg => ?_) (lt_of rfl)
    refine xss_for C (xi_r (n := dl.length) C 1 rfl (xe_i (xe_len C 2 rfl (xe_v C 1 rfl rfl rfl) (.inl rfl)) (by rw [encW_len, hwl])) (by omega)) (fun i δ => ∃ x4 x5 x6 x7, δ = [some (.im (.std c h (encDs dl))), some (.im (.lst (encW (wts dl)))), some (.ml lf (natsD (goOut (wts dl) i))), some (.md lg (kvT (goOut (wts dl) i))), x4, x5, x6, x7, none]) _ ⟨none, none, none, none, rfl⟩ (fun i d δ hd hI => ?_) (fun δ z => z) (fun δ hI => ?_)
    · obtain ⟨x4, x5, x6, x7, rfl⟩ := hI
      obtain ⟨y, hy, rfl⟩ := natsD_of hd
      obtain ⟨hin, rfl⟩ := range_at hy
      obtain ⟨gk, _⟩ := hall y (by omega)
      refine ⟨_, _, (xg_n C 4 rfl rfl (lt_of rfl)), ?_⟩
      refine xss_setL C 5 rfl rfl (xe_lst (ds := [_]) (xa_cons (xe_v C 4 rfl rfl rfl) xa_nil) (le_of rfl) rfl) rfl (fun lw => ?_) (lt_of rfl)
      refine xss_while C (fun m δ => ∃ w f fuel x6 x7, δ = [some (.im (.std c h (encDs dl))), some (.im (.lst (encW (wts dl)))), some (.ml lf (natsD f)), some (.md lg (kvT f)), some (.im (.int (y : Nat))), some (.ml lw (natsD w)), x6, x7, none] ∧ GI rk (wts dl) y (goOut (wts dl) y) w f ∧ goIn (wts dl) fuel w f = goOut (wts dl) (y + 1) ∧ mu (wts dl).length w f ≤ fuel ∧ m = mu (wts dl).length w f)
        (fun δ => ∃ x5 x6 x7, δ = [some (.im (.std c h (encDs dl))), some (.im (.lst (encW (wts dl)))), some (.ml lf (natsD (goOut (wts dl) (y + 1)))), some (.md lg (kvT (goOut (wts dl) (y + 1)))), some (.im (.int (y : Nat))), x5, x6, x7, none]) _ ⟨[y], goOut (wts dl) y, 3 * (wts dl).length + 2, x6, x7, rfl, GI.start (by omega) gk.g gk.rc, rfl, Nat.le_succ_of_le (mu_start _ _ _), rfl⟩ (fun m δ hI => ?_) (fun δ ⟨x5, x6, x7, e⟩ => xss_nil ⟨_, x5, x6, x7, e⟩)
      obtain ⟨w, f, fuel, x6, x7, rfl, gi, hE, hmu, rfl⟩ := hI
      refine ⟨_, _, xt_gt (xe_len C 2 rfl (xe_m C 5 rfl rfl rfl rfl) (.inl ⟨5, rfl⟩)) xe_int, fun hb => ?_, fun hb => ?_⟩
      · have hb' := of_decide_eq_true hb
        rw [natsD_len] at hb'
        obtain ⟨w', x, rfl⟩ : ∃ w' x, w = w' ++ [x] := ⟨w.dropLast, w.getLast (by intro z; subst z; simp at hb'), (List.dropLast_concat_getLast _).symm⟩
        obtain ⟨g2, g3⟩ := gi.step o.wf hrk
        have hx : x < dl.length := by rw [← hwl]; exact gi.wl x (by simp)
        have ndw : (w' ++ [x]).Nodup := gi.up.imp fun {a b} z => fun e => by rw [e] at z; exact Nat.lt_irrefl _ z
        have hwlen : (w' ++ [x]).length ≤ 30 := by
          have := nodup_len ndw gi.wl
          omega
        have hflen : f.length ≤ 30 := by
          have := nodup_len gi.g.nd gi.g.lt
          omega
        have hwx : ((wts dl).getD x []).length ≤ 30 := o.wl _ (List.mem_of_getElem? (getD_ws (by rw [hwl]; exact hx)))
        obtain ⟨fuel, rfl⟩ : ∃ n, fuel = n + 1 := ⟨fuel - 1, by omega⟩
        rw [goIn_succ] at hE
        have ea : natsD (w' ++ [x]) = natsD w' ++ [.int (x : Nat)] := natsD_app w' [x]
        rw [ea]
        refine xss_set C 6 rfl rfl (xe_ixL (x := .int (x : Nat)) (xe_m C 5 rfl rfl rfl rfl) (xe_neg xe_int) ⟨5, rfl⟩ (atI_last _ _)) ?_ (lt_of rfl)
        refine xss_setLcP (own := [("other", 8)]) (accF := natsD (leftL (wts dl) f x)) (fun m => if (!decide (((wts dl).getD x []).getD m 0 ∈ f)) = true then some (.int ((((wts dl).getD x []).getD m 0 : Nat) : Int)) else none) C 7 rfl rfl (by decide +kernel) [3, 8] [8] [] (xi_t (xe_ixL (xe_v C 1 rfl rfl rfl) (xe_v C 6 rfl rfl rfl) rfl (atI_nat (encW_get (getD_ws (by rw [hwl]; exact hx))))) rfl) (by decide +kernel) (by decide +kernel) (LFs_nats _) (by rw [natsD_len]; omega) (fun m d hd => ?_) ?_ rfl rfl (by decide +kernel) (lt_of rfl) ?_
        · obtain ⟨z, hz, rfl⟩ := natsD_of hd
          have eg : ((wts dl).getD x []).getD m 0 = z := by rw [List.getD_eq_getElem?_getD, hz]; rfl
          exact ⟨_, _, !decide (z ∈ f), rfl, fun Y hB D => (xg_n D 8 rfl rfl (lt_of rfl)), fun Y hB D => (xts_one (xt_b (xt_dnotin (hu_of (Room.blk hr hB)) (xe_v D 8 rfl rfl rfl) (xe_m D 3 rfl rfl rfl rfl) ⟨3, rfl⟩) (by rw [kvT_some]))), fun hb => ⟨_, by rw [eg, if_pos hb], fun Y hB D => (xe_v D 8 rfl rfl rfl), rfl⟩, fun hb => by rw [eg]; exact if_neg (by rw [hb]; simp), rfl⟩
        · rw [natsD_len]
          unfold leftL natsD
          rw [List.map_map, ← filter_fm]
          exact range_fm _ _ _ fun m z hz => by rw [List.getD_eq_getElem?_getD, hz]; rfl
        by_cases q : x ∈ f
        · have eS : goStep (wts dl) w' x f = (w', f) := by
            unfold goStep
            rw [if_pos q]
          rw [eS] at g2 g3 hE
          simp only at g2 g3 hE
          refine xss_if (Mid := fun δ => _) (xt_t (xt_din hu (xe_v C 6 rfl rfl rfl) (xe_m C 3 rfl rfl rfl rfl) ⟨3, rfl⟩) (by rw [kvT_some, decide_eq_true q])) (fun _ => ?_) (by intro z; cases z) (fun δ z => xss_nil z)
          exact xss_doR (xe_pop C 5 rfl rfl rfl) (xss_nil ⟨_, g3, w', f, fuel, _, _, rfl, g2, hE, by omega, rfl⟩)
        · refine xss_if (Mid := fun δ => _) (xt_f (xt_din hu (xe_v C 6 rfl rfl rfl) (xe_m C 3 rfl rfl rfl rfl) ⟨3, rfl⟩) (by rw [kvT_some, decide_eq_false q])) (by intro z; cases z) (fun _ => ?_) (fun δ z => xss_nil z)
          cases hl : leftL (wts dl) f x with
          | cons z r =>
            have eS : goStep (wts dl) w' x f = (w' ++ [x] ++ [z], f) := by
              unfold goStep
              rw [if_neg q, hl]
            rw [eS] at g2 g3 hE
            simp only at g2 g3 hE
            refine xss_if (Mid := fun δ => _) (xt_t (xt_gt (xe_len C 2 rfl (xe_v C 7 rfl rfl rfl) (.inl rfl)) xe_int) (decide_eq_true (by rw [natsD_len, List.length_cons]; omega))) (fun _ => ?_) (by intro z; cases z) (fun δ z => xss_nil z)
            refine xss_app C 5 rfl rfl rfl (xe_ixL (x := .int (z : Nat)) (xe_v C 7 rfl rfl rfl) xe_int rfl (atI_nat (j := 0) rfl)) rfl rfl (by rw [← ea, natsD_len]; omega) ?_
            have eb : natsD w' ++ [D.int (x : Nat)] ++ [D.int (z : Nat)] = natsD (w' ++ [x] ++ [z]) := by rw [natsD_app, natsD_app]; rfl
            rw [eb]
            exact xss_nil ⟨_, g3, _, f, fuel, _, _, rfl, g2, hE, by omega, rfl⟩
          | nil =>
            have eS : goStep (wts dl) w' x f = (w' ++ [x], f ++ [x]) := by
              unfold goStep
              rw [if_neg q, hl]
            rw [eS] at g2 g3 hE
            simp only at g2 g3 hE
            refine xss_if (Mid := fun δ => _) (xt_f (xt_gt (xe_len C 2 rfl (xe_v C 7 rfl rfl rfl) (.inl rfl)) xe_int) (decide_eq_false (by rw [natsD_len]; simp))) (by intro z; cases z) (fun _ => ?_) (fun δ z => xss_nil z)
            refine xss_dput hu C 3 rfl rfl xe_bl rfl (xe_v C 6 rfl rfl rfl) (by rw [kvT_look, if_neg q]) rfl (by rw [kvT_len]; omega) ?_
            have e1 : kvT f ++ [(((x : Nat) : Int), D.bl true)] = kvT (f ++ [x]) := by simp [kvT]
            rw [e1]
            refine xss_app C 2 rfl rfl rfl (xe_v C 6 rfl rfl rfl) rfl rfl (by rw [natsD_len]; omega) ?_
            have e2 : natsD f ++ [D.int (x : Nat)] = natsD (f ++ [x]) := (natsD_app f [x]).symm
            rw [e2, ← ea]
            exact xss_nil ⟨_, g3, _, _, fuel, _, _, rfl, g2, hE, by omega, rfl⟩
      · have hb' := of_decide_eq_false hb
        rw [natsD_len] at hb'
        have ew : w = [] := List.eq_nil_of_length_eq_zero (by omega)
        subst ew
        rw [goIn_nil] at hE
        subst hE
        exact ⟨_, _, _, rfl⟩
    · obtain ⟨x4, x5, x6, x7, rfl⟩ := hI
      rw [natsD_len, List.length_range]
      exact xss_retm (k := 2) (xe_m C 2 rfl rfl rfl rfl) rfl rfl (LFs_nats _)
theorem c_going_order (D : Df K mg "going_order" s_going_order) (hg : Glb mg) (c_waits_of : CalP P w K mg base 1 "waits_of" (spD CS R_waits_of)) : CalP P w K mg base 2 "going_order" (spD CS R_going_order) :=
  mkD D hg sc_going_order ok_going_order (by intro _ _ h; cases h <;> rfl) (fun X hX C hr ds r hR => b_going_order C hr (hX.cal c_waits_of) hR) (fun f fd F => F.binds fun _ _ _ _ _ _ us hl => match us, hl with | [_], _ => rfl)
/-- the steps of a course along an order -/
def stepsD (dl : List Deed) : List Nat → List D
  | [] => []
  | x :: l => (if 0 < (dl.getD x dflt).need then [.tup [.str "write", .int (x : Nat), .int (dl.getD x dflt).need]] else []) ++ [.tup [.str "go", .int (x : Nat)]] ++ stepsD dl l
theorem stepsD_app (dl : List Deed) : ∀ (as bs : List Nat), stepsD dl (as ++ bs) = stepsD dl as ++ stepsD dl bs
  | [], bs => rfl
  | a :: as, bs => by simp [stepsD, stepsD_app dl as bs]
theorem stepsD_lf (dl : List Deed) : ∀ l : List Nat, LFs (stepsD dl l) = true
  | [] => rfl
  | a :: l => by
    have := stepsD_lf dl l
    unfold stepsD
    rw [LFs_app, LFs_app, this]
    by_cases q : 0 < (dl.getD a dflt).need
    · rw [if_pos q]; rfl
    · rw [if_neg q]; rfl
theorem stepsD_len (dl : List Deed) : ∀ l : List Nat, (stepsD dl l).length ≤ 2 * l.length
  | [] => by simp [stepsD]
  | a :: l => by
    have := stepsD_len dl l
    unfold stepsD
    rw [List.length_append, List.length_append]
    by_cases q : 0 < (dl.getD a dflt).need
    · rw [if_pos q]; simp; omega
    · rw [if_neg q]; simp; omega
inductive R_course : List D → D → Prop
  | mk {b c h : Int} {dl : List Deed} : Ok b h dl → fineB c h dl = true → R_course [.std c h (encDs dl)] (.tup (stepsD dl (goOut (wts dl) dl.length)))
theorem b_course (C : Ctx X (defScope s_course) N_course V_course V_course G_course) (hr : Room 5 X.A) (S : StdC X.K CS) (mw : CstS X.mg "WRITE" "write") (mgo : CstS X.mg "GO" "go") (c_easy : CalX X 5 "easy" (spD CS R_easy)) (c_going_order : CalX X 2 "going_order" (spD CS R_going_order)) {ds : List D} {r : D} (hR : R_course ds r) :
    XSs X CS (defBody s_course) (startD N_course (ds.map Slot.im)) (Pr r) := by
  cases hR with
  | @mk b c h dl o hf =>
    have hlen := o.len
    have hwl := wts_len dl
    obtain ⟨hg, hp⟩ := goOut_all o.wf o.ac
    rw [hwl] at hg hp
    have hlt : ∀ x ∈ goOut (wts dl) dl.length, x < dl.length := fun x hx => by rw [← hwl]; exact hg.lt x hx
    have hol : (goOut (wts dl) dl.length).length ≤ 30 := by
      have := nodup_len hg.nd hlt
      omega
    refine xss_if0 (xt_not (xt_v (xn (xn_to (xe_call c_easy hr (by decide) C 0 rfl (xa_cons (xe_v C 0 rfl rfl rfl) xa_nil) (argc_ds _ [_]) (.mk o)) (by rw [hf]))))) (by intro z; cases z) (fun _ => ?_)
    refine xss_setL C 1 rfl rfl (xe_lst (ds := []) xa_nil (le_of rfl) rfl) rfl (fun lf => ?_) (lt_of rfl)
    refine xss_for C (xi_l (xn (xe_call c_going_order hr (by decide) C 1 rfl (xa_cons (xe_v C 0 rfl rfl rfl) xa_nil) (argc_ds _ [_]) (.mk o))) rfl) (fun i δ => ∃ x2 x3, δ = [some (.im (.std c h (encDs dl))), some (.ml lf (stepsD dl ((goOut (wts dl) dl.length).take i))), x2, x3]) _ ⟨none, none, rfl⟩ (fun i d δ hd hI => ?_) (fun δ z => z) (fun δ hI => ?_)
    · obtain ⟨x2, x3, rfl⟩ := hI
      obtain ⟨y, hy, rfl⟩ := natsD_of hd
      have hyl := hlt y (List.mem_of_getElem? hy)
      have hsl := stepsD_len dl ((goOut (wts dl) dl.length).take i)
      have htl : ((goOut (wts dl) dl.length).take i).length ≤ 30 := by
        rw [List.length_take]
        omega
      have et : (goOut (wts dl) dl.length).take (i + 1) = (goOut (wts dl) dl.length).take i ++ [y] := by rw [List.take_add_one, hy]; rfl
      refine ⟨_, _, (xg_n C 2 rfl rfl (lt_of rfl)), ?_⟩
      refine xss_set C 3 rfl rfl (xe_ixT (xe_ixT (xe_deeds S (xe_v C 0 rfl rfl rfl)) (xe_v C 2 rfl rfl rfl) rfl (atI_nat (encDs_get (getD_some hyl)))) xe_int rfl rfl) ?_ (lt_of rfl)
      refine xss_if (Mid := fun δ => ∃ x3, δ = [some (.im (.std c h (encDs dl))), some (.ml lf (stepsD dl ((goOut (wts dl) dl.length).take i) ++ (if 0 < (dl.getD y dflt).need then [.tup [.str "write", .int (y : Nat), .int (dl.getD y dflt).need]] else []))), some (.im (.int (y : Nat))), x3]) (xt_gt (xe_v C 3 rfl rfl rfl) xe_int) (fun hb => ?_) (fun hb => ?_) (fun δ z => ?_)
      · refine xss_app C 1 rfl rfl rfl (xe_tup (ds := [_, _, _]) (xa_cons (xe_gs C mw 2 rfl) (xa_cons (xe_v C 2 rfl rfl rfl) (xa_cons (xe_v C 3 rfl rfl rfl) xa_nil))) (le_of rfl)) rfl rfl (by omega) ?_
        exact xss_nil ⟨_, by rw [if_pos (of_decide_eq_true hb)]; rfl⟩
      · exact xss_nil ⟨_, by rw [if_neg (of_decide_eq_false hb), List.append_nil]; rfl⟩
      · obtain ⟨x3', rfl⟩ := z
        refine xss_app C 1 rfl rfl rfl (xe_tup (ds := [_, _]) (xa_cons (xe_gs C mgo 3 rfl) (xa_cons (xe_v C 2 rfl rfl rfl) xa_nil)) (le_of rfl)) rfl rfl ?_ ?_
        · rw [List.length_append]
          by_cases q : 0 < (dl.getD y dflt).need
          · rw [if_pos q]; simp; omega
          · rw [if_neg q]; simp; omega
        · rw [et, stepsD_app]
          exact xss_nil ⟨some (.im (.int (y : Nat))), x3', by simp [stepsD]⟩
    · obtain ⟨x2, x3, rfl⟩ := hI
      have e : (goOut (wts dl) dl.length).take (natsD (goOut (wts dl) dl.length)).length = goOut (wts dl) dl.length := by
        rw [natsD_len]
        exact List.take_length
      rw [e]
      exact xss_ret (xe_tuple C 4 rfl (xe_m C 1 rfl rfl rfl rfl) ⟨1, rfl⟩) rfl (stepsD_lf _ _)
theorem c_course (D : Df K mg "course" s_course) (hg : Glb mg) (S : StdC K CS) (mw : CstS mg "WRITE" "write") (mgo : CstS mg "GO" "go") (c_easy : CalP P w K mg base 5 "easy" (spD CS R_easy)) (c_going_order : CalP P w K mg base 2 "going_order" (spD CS R_going_order)) : CalP P w K mg base 6 "course" (spD CS R_course) :=
  mkD D hg sc_course ok_course (by intro _ _ h; cases h <;> rfl) (fun X hX C hr ds r hR => b_course C hr (hX.std S) (by rw [hX.m]; exact mw) (by rw [hX.m]; exact mgo) (hX.cal c_easy) (hX.cal c_going_order) hR) (fun f fd F => F.binds fun _ _ _ _ _ _ us hl => match us, hl with | [_], _ => rfl)
end K06
/-! M12: the course's steps fit (plain Lean). -/
namespace K06
/-- a deed's cell of the law's state: gone, or its first cell (if any) and the cells left -/
abbrev Cell := Option (Option Int × Int)
def stC (dl : List Deed) (f : List Nat) : List Cell := (List.range dl.length).map fun j => if j ∈ f then none else some ((dl.getD j dflt).first, (dl.getD j dflt).need)
theorem stC_len (dl : List Deed) (f : List Nat) : (stC dl f).length = dl.length := by simp [stC]
theorem stC_get {dl : List Deed} {f : List Nat} {j : Nat} (h : j < dl.length) : (stC dl f)[j]? = some (if j ∈ f then none else some ((dl.getD j dflt).first, (dl.getD j dflt).need)) := by
  simp [stC, h]
theorem stC_set {dl : List Deed} {f : List Nat} {x : Nat} (h : x < dl.length) : (stC dl f).set x none = stC dl (f ++ [x]) := by
  apply List.ext_getElem?
  intro j
  by_cases q : j < dl.length
  · rw [List.getElem?_set, stC_get q, stC_get q]
    by_cases e : x = j
    · subst e
      simp [stC_len, q]
    · have : ¬ j = x := fun z => e z.symm
      simp [e, this]
  · rw [List.getElem?_eq_none (by rw [List.length_set, stC_len]; omega), List.getElem?_eq_none (by rw [stC_len]; omega)]
/-- the first cells of a state -/
def fsC (cs : List Cell) : List Int := cs.filterMap fun c => c.bind (·.1)
theorem mem_fsC {cs : List Cell} {f : Int} : f ∈ fsC cs ↔ ∃ (j : Nat) (n : Int), cs[j]? = some (some (some f, n)) := by
  unfold fsC
  rw [List.mem_filterMap]
  constructor
  · rintro ⟨c, hc, e⟩
    obtain ⟨j, hj⟩ := List.mem_iff_getElem?.mp hc
    match c, e with
    | some (some g, n), e =>
      cases e
      exact ⟨j, n, hj⟩
  · rintro ⟨j, n, h⟩
    exact ⟨_, List.mem_of_getElem? h, rfl⟩
theorem needAt_getD {dl : List Deed} {j : Nat} (h : j < dl.length) : needAt dl j = (dl.getD j dflt).need := needAt_of (getD_some h)
/-- the claim's sum is no more than that of a list that holds it -/
theorem needSum_sub {b h : Int} {dl : List Deed} (o : Ok b h dl) : ∀ {as bs : List Nat}, as.Nodup → (∀ x ∈ as, x ∈ bs) → needSum dl as ≤ needSum dl bs
  | [], bs, _, _ => (needSum_le o bs).1
  | a :: as, bs, nd, h => by
    have h1 := (List.nodup_cons.mp nd)
    have hp : bs.Perm (a :: bs.erase a) := List.perm_cons_erase (h a (by simp))
    have ih := needSum_sub o (as := as) (bs := bs.erase a) h1.2 fun x hx => by
      have : x ≠ a := fun e => h1.1 (e ▸ hx)
      exact (List.mem_erase_of_ne this).mpr (h x (by simp [hx]))
    rw [needSum_perm hp]
    simp only [needSum, List.map_cons, List.sum_cons] at ih ⊢
    omega
theorem fine_at {c h : Int} {dl : List Deed} (hf : fineB c h dl = true) {i : Nat} (hi : i < dl.length) : load h dl i ≤ c := by
  unfold fineB at hf
  exact of_decide_eq_true (List.all_eq_true.mp hf _ (by unfold loads; exact List.mem_map.mpr ⟨i, List.mem_range.mpr hi, rfl⟩))
/-- a write of the whole need fits -/
theorem write_fits {b c h : Int} {dl : List Deed} (o : Ok b h dl) (hf : fineB c h dl = true) {p x : Nat} (hx : (goOut (wts dl) dl.length)[p]? = some x) :
    ∀ f ∈ fsC ((stC dl ((goOut (wts dl) dl.length).take p)).set x (some (some ((dl.getD x dflt).first.getD (h + needSum dl ((goOut (wts dl) dl.length).take p))), 0))),
      h + needSum dl ((goOut (wts dl) dl.length).take p) + (dl.getD x dflt).need - f ≤ c := by
  intro f hfm
  have hwl := wts_len dl
  have hall := goOut_all o.wf o.ac
  have hat := goOut_at o.wf o.ac (p := p) (by rw [hwl]; exact (List.getElem?_eq_some_iff.mp hx).1)
  rw [hwl] at hall hat
  generalize goOut (wts dl) dl.length = ord at *
  obtain ⟨hg, hp⟩ := hall
  have hxl : x < dl.length := by rw [← hwl]; exact hg.lt x (List.mem_of_getElem? hx)
  have et : ord.take (p + 1) = ord.take p ++ [x] := by rw [List.take_add_one, hx]; rfl
  have es : needSum dl (ord.take (p + 1)) = needSum dl (ord.take p) + (dl.getD x dflt).need := by rw [et, needSum_add, needAt_getD hxl]
  have ndt : (ord.take (p + 1)).Nodup := hg.nd.sublist (List.take_sublist _ _)
  obtain ⟨i, hi, hbe, hrc⟩ := hat
  -- a living begun deed's load holds all written so far
  have key : ∀ j, j < dl.length → i ≤ j → (dl.getD j dflt).first = some f → h + needSum dl (ord.take p) + (dl.getD x dflt).need - f ≤ c := fun j hj hij hfj => by
    have hl := fine_at hf hj
    rw [load_some (getD_some hj) hfj] at hl
    have := needSum_sub o (as := ord.take (p + 1)) (bs := clo (wts dl) (List.range (j + 1))) ndt fun y hy => by
      refine (mem_clo o.wf (by intro z hz; rw [hwl]; have := List.mem_range.mp hz; omega) y).mpr ?_
      refine Reach.mono (fun z hz => .base (List.mem_range.mpr ?_)) (hrc y hy)
      have := List.mem_range.mp hz
      omega
    omega
  obtain ⟨j, n, hj⟩ := mem_fsC.mp hfm
  have hjl : j < dl.length := by
    have := (List.getElem?_eq_some_iff.mp hj).1
    rwa [List.length_set, stC_len] at this
  rw [List.getElem?_set, stC_len] at hj
  by_cases e : x = j
  · subst e
    rw [if_pos rfl, if_pos hjl] at hj
    cases q : (dl.getD x dflt).first with
    | none =>
      rw [q] at hj
      simp only [Option.getD_none, Option.some.injEq, Prod.mk.injEq] at hj
      have hl := fine_at hf hxl
      rw [load_none (getD_some hxl) q] at hl
      omega
    | some g =>
      rw [q] at hj
      simp only [Option.getD_some, Option.some.injEq, Prod.mk.injEq] at hj
      refine key x hxl (Nat.le_of_not_lt fun z => ?_) (by rw [q, hj.1])
      have h1 := hbe x z
      obtain ⟨m, hm⟩ := List.mem_iff_getElem?.mp h1
      rw [List.getElem?_take] at hm
      split at hm
      · have := (List.getElem?_inj (List.getElem?_eq_some_iff.mp hm).1 hg.nd).mp (hm.trans hx.symm)
        omega
      · cases hm
  · rw [if_neg e, stC_get hjl] at hj
    by_cases q : j ∈ ord.take p
    · rw [if_pos q] at hj; cases hj
    · rw [if_neg q] at hj
      simp only [Option.some.injEq, Prod.mk.injEq] at hj
      exact key j hjl (Nat.le_of_not_lt fun z => q (hbe j z)) hj.1
end K06
/-! D17: the law's course. -/
namespace K06
open PySem PySem.Spec L2
variable {P : Program} {w : World} {K : PySem.W.Frag} {mg : Str → Option Value} {base : Heap} {CS : Addr} {X : Cx}
def encC : Cell → D
  | none => .non
  | some (f, n) => .tup [optD f, .int n]
def encCs (cs : List Cell) : List D := cs.map encC
def stD (h : Int) (cs : List Cell) : D := .tup [.int h, .tup (encCs cs)]
theorem encCs_len (cs : List Cell) : (encCs cs).length = cs.length := by simp [encCs]
theorem encCs_get {cs : List Cell} {i : Nat} {c : Cell} (h : cs[i]? = some c) : (encCs cs)[i]? = some (encC c) := by simp [encCs, h]
theorem encCs_of {cs : List Cell} {i : Nat} {d : D} (h : (encCs cs)[i]? = some d) : ∃ c, cs[i]? = some c ∧ d = encC c := by
  unfold encCs at h
  rw [List.getElem?_map] at h
  cases q : cs[i]? with
  | none => rw [q] at h; cases h
  | some c => rw [q] at h; cases h; exact ⟨c, rfl, rfl⟩
theorem lf_c : ∀ c : Cell, LF (encC c) = true
  | none => rfl
  | some (f, n) => by
    have := lf_optD f
    simp only [encC, LF, LFs, this, Bool.and_true]
theorem lf_cs (cs : List Cell) : LFs (encCs cs) = true := LFs_all fun d hd => by
  obtain ⟨c, _, rfl⟩ := List.mem_map.mp hd
  exact lf_c c
theorem lf_st (h : Int) (cs : List Cell) : LF (stD h cs) = true := by
  have := lf_cs cs
  simp only [stD, LF, LFs, this, Bool.and_true]
theorem cutD_drop (ds : List D) {m : Nat} (h : m ≤ ds.length) : cutD ds (some (m : Nat)) none = ds.drop m := by
  unfold cutD
  have e1 : HT.sIx ds.length ds.length none = ds.length := rfl
  have e2 : HT.sIx ds.length 0 (some ((m : Nat) : Int)) = m := by
    unfold HT.sIx
    simp only
    rw [if_neg (by omega)]
    omega
  rw [e1, e2]
  exact List.take_of_length_le (by simp)
theorem set_cut {cs : List Cell} {x : Nat} {c : Cell} (h : x < cs.length) : cutD (encCs cs) none (some ((x : Nat) : Int)) ++ [encC c] ++ cutD (encCs cs) (some (((x : Nat) : Int) + 1)) none = encCs (cs.set x c) := by
  have e : ((x : Nat) : Int) + 1 = ((x + 1 : Nat) : Int) := by omega
  rw [e, cutD_take _ (by rw [encCs_len]; omega), cutD_drop _ (by rw [encCs_len]; omega)]
  unfold encCs
  rw [List.map_set, List.set_eq_take_append_cons_drop, if_pos (by rw [List.length_map]; exact h), List.append_assoc]
  rfl
theorem xt_or3f {a b c : Expr} {δ : Sto} {pos : Pos} (ha : XT X CS a δ false δ) (hb : XT X CS b δ false δ) (hc : XT X CS c δ false δ) : XT X CS (.BoolOp .Or [a, b, c] pos) δ false δ := xw (xw_or ha (fun _ => xw_or hb (fun _ => xw_or1 hc) (by intro z; cases z)) (by intro z; cases z))
theorem xt_or2f {a b : Expr} {δ δ1 : Sto} {pos : Pos} (ha : XT X CS a δ false δ) (hb : XT X CS b δ false δ1) : XT X CS (.BoolOp .Or [a, b] pos) δ false δ1 := xw (xw_or ha (fun _ => xw_or1 hb) (by intro z; cases z))
theorem cut_len (cs : List Cell) (lo hi : Option Int) : (cutD (encCs cs) lo hi).length ≤ cs.length := by
  unfold cutD
  rw [List.length_take, List.length_drop, encCs_len]
  omega
theorem cut_l1 {cs : List Cell} (h : cs.length ≤ 30) (lo hi : Option Int) (d : D) : (cutD (encCs cs) lo hi).length + [d].length ≤ 1000 := by
  have := cut_len cs lo hi
  rw [List.length_singleton]
  omega
theorem cut_l2 {cs : List Cell} (h : cs.length ≤ 30) (lo hi lo' hi' : Option Int) (d : D) : (cutD (encCs cs) lo hi ++ [d]).length + (cutD (encCs cs) lo' hi').length ≤ 1000 := by
  have := cut_len cs lo hi
  have := cut_len cs lo' hi'
  rw [List.length_append, List.length_singleton]
  omega
inductive R_L_is_whole : List D → D → Prop
  | mk {i lo hi : Int} : R_L_is_whole [.int i, .int lo, .int hi] (.bl (decide (lo ≤ i) && decide (i ≤ hi)))
theorem b_L_is_whole (C : Ctx X (defScope s_L_is_whole) N_L_is_whole V_L_is_whole V_L_is_whole G_L_is_whole) (hr : Room 0 X.A) {ds : List D} {r : D} (hR : R_L_is_whole ds r) :
    XSs X CS (defBody s_L_is_whole) (startD N_L_is_whole (ds.map Slot.im)) (Pr r) := by
  cases hR
  exact xss_ret (xe_and (xe_isi C 0 rfl (xe_v C 0 rfl rfl rfl) (xe_bt (T := "int") C 1 rfl C.glb.int (by decide +kernel)) (q := true) rfl (by decide +kernel)) (fun _ => (xe_and (xe_not (xe_isi C 0 rfl (xe_v C 0 rfl rfl rfl) (xe_bt (T := "bool") C 2 rfl C.glb.bool (by decide +kernel)) (q := false) rfl (by decide +kernel))) (fun _ => (xe_one (xe_lele (xe_v C 1 rfl rfl rfl) (xe_v C 0 rfl rfl rfl) (xe_v C 2 rfl rfl rfl)))) (by intro z; cases z))) (by intro z; cases z)) rfl rfl
theorem c_L_is_whole (D : Df K mg "_law_is_whole" s_L_is_whole) (hg : Glb mg) : CalP P w K mg base 1 "_law_is_whole" (spD CS R_L_is_whole) :=
  mkD D hg sc_L_is_whole ok_L_is_whole (by intro _ _ h; cases h <;> rfl) (fun X hX C hr ds r hR => b_L_is_whole C hr hR) (fun f fd F => F.binds fun _ _ _ _ _ _ us hl => match us, hl with | [_, _, _], _ => rfl)
theorem whole_t {i lo hi : Int} (h1 : lo ≤ i) (h2 : i ≤ hi) : R_L_is_whole [.int i, .int lo, .int hi] (.bl true) := by
  have e : (decide (lo ≤ i) && decide (i ≤ hi)) = true := by rw [decide_eq_true h1, decide_eq_true h2]; rfl
  exact e ▸ R_L_is_whole.mk
inductive R_L_step : List D → D → Prop
  | go {b c h hd : Int} {dl : List Deed} {x : Nat} {fo : Option Int} {cs : List Cell} : Ok b h dl → cs.length = dl.length → x < dl.length → cs[x]? = some (some (fo, 0)) → (∀ o ∈ (dl.getD x dflt).waits, cs[o]? = some none) → R_L_step [.int c, .tup (encDs dl), stD hd cs, .tup [.str "go", .int (x : Nat)]] (stD hd (cs.set x none))
  | write {b c h hd n : Int} {dl : List Deed} {x : Nat} {fo : Option Int} {cs : List Cell} : Ok b h dl → cs.length = dl.length → x < dl.length → cs[x]? = some (some (fo, n)) → 0 < n → (∀ f ∈ fsC (cs.set x (some (some (fo.getD hd), 0))), hd + n - f ≤ c) →
    R_L_step [.int c, .tup (encDs dl), stD hd cs, .tup [.str "write", .int (x : Nat), .int n]] (stD (hd + n) (cs.set x (some (some (fo.getD hd), 0))))
theorem fsC_map (cs : List Cell) : (List.range (encCs cs).length).filterMap (fun i => ((cs.getD i none).bind (·.1)).map D.int) = (fsC cs).map D.int := by
  rw [encCs_len]
  unfold fsC
  rw [List.map_filterMap]
  exact range_fm _ _ _ fun i c hc => by rw [List.getD_eq_getElem?_getD, hc]; rfl
theorem hwx {dl : List Deed} {x : Nat} (hx : x < dl.length) : D.bl (decide ((0 : Int) ≤ ((x : Nat) : Int)) && decide (((x : Nat) : Int) ≤ (((encDs dl).length : Nat) : Int) - 1)) = .bl true := by
  rw [decide_eq_true (by omega), decide_eq_true (by rw [encDs_len]; omega)]
  rfl
theorem min_ex : ∀ {ns : List Int}, ns ≠ [] → ∃ m ∈ ns, ∀ y ∈ ns, m ≤ y
  | [], h => absurd rfl h
  | [a], _ => ⟨a, by simp, by simp⟩
  | a :: b :: l, _ => by
    obtain ⟨m, h1, h2⟩ := min_ex (ns := b :: l) (by simp)
    by_cases q : a ≤ m
    · exact ⟨a, by simp, fun y hy => by
        rcases List.mem_cons.mp hy with e | e
        · omega
        · have := h2 y e; omega⟩
    · exact ⟨m, by simp [h1], fun y hy => by
        rcases List.mem_cons.mp hy with e | e
        · omega
        · exact h2 y e⟩
theorem b_L_step (C : Ctx X (defScope s_L_step) N_L_step V_L_step V_L_step G_L_step) (hr : Room 1 X.A) (c_L_is_whole : CalX X 1 "_law_is_whole" (spD CS R_L_is_whole)) {ds : List D} {r : D} (hR : R_L_step ds r) :
    XSs X CS (defBody s_L_step) (startD N_L_step (ds.map Slot.im)) (Pr r) := by
  cases hR with
  | @go b c h hd dl x fo cs o hl hx hc hw =>
    have hlen := o.len
    have hix : L2.atI (encCs cs) ((x : Nat) : Int) = some (encC (some (fo, 0))) := atI_nat (encCs_get hc)
    refine xss_asg (xe_v C 2 rfl rfl rfl) (xg_t C (xgs_cons (xg_n C 4 rfl rfl (lt_of rfl)) (xgs_cons (xg_n C 5 rfl rfl (lt_of rfl)) xgs_nil)) rfl) ?_
    refine xss_if0 (xt_or3f (xt_not (xt_v (xe_isi C 0 rfl (xe_v C 3 rfl rfl rfl) (xe_bt (T := "tuple") C 1 rfl C.glb.tuple (by decide +kernel)) (q := true) rfl (by decide +kernel)))) (xt_f (xt_notin (ns := [2, 3]) (xe_len C 2 rfl (xe_v C 3 rfl rfl rfl) (.inr rfl)) (xe_tup (ds := [_, _]) (xa_cons xe_int (xa_cons xe_int xa_nil)) (le_of rfl)) (.inr rfl)) rfl) (xt_f (xt_not (xt_v (xn (xn_to (xe_call c_L_is_whole hr (by decide) C 3 rfl (xa_cons (xe_ixT (xe_v C 3 rfl rfl rfl) xe_int rfl rfl) (xa_cons xe_int (xa_cons (xe_sub (xe_len C 2 rfl (xe_v C 1 rfl rfl rfl) (.inr rfl)) xe_int) xa_nil))) (argc_ds _ [_, _, _]) .mk) (hwx hx))))) rfl)) (by intro z; cases z) (fun _ => ?_)
    refine xss_set C 6 rfl rfl (xe_ixT (xe_v C 5 rfl rfl rfl) (xe_ixT (xe_v C 3 rfl rfl rfl) xe_int rfl rfl) rfl hix) ?_ (lt_of rfl)
    refine xss_if0 (p := false) (xw (xw_or (xt_isN (xe_v C 6 rfl rfl rfl)) (fun _ => (xw_or (xt_not (xt_v (xe_isi C 0 rfl (xe_ixT (xe_v C 3 rfl rfl rfl) xe_int rfl rfl) (xe_bt (T := "str") C 4 rfl C.glb.str (by decide +kernel)) (q := true) rfl (by decide +kernel)))) (fun _ => (xw_or1 (xt_f (xt_ne (xe_eq (xe_len C 2 rfl (xe_v C 3 rfl rfl rfl) (.inr rfl)) xe_int opd_eqI) (xe_eq (xe_ixT (xe_v C 3 rfl rfl rfl) xe_int rfl rfl) xe_str opd_eqS) opd_neB) rfl))) (by intro z; cases z))) (by intro z; cases z))) (by intro z; cases z) (fun _ => ?_)
    refine xss_if0 (xt_t (xt_eq (xe_ixT (xe_v C 3 rfl rfl rfl) xe_int rfl rfl) xe_str opd_eqS) (decide_eq_true rfl)) (fun _ => ?_) (by intro z; cases z)
    have hwl := (o.wt _ _ (getD_some hx))
    have hwlen : (dl.getD x dflt).waits.length ≤ 30 := by
      have := nodup_len (n := dl.length) (up_nodup hwl.up) hwl.lt
      omega
    refine xss_if0 (xt_or2f (xt_f (xt_gt (xe_ixT (xe_v C 6 rfl rfl rfl) xe_int rfl rfl) xe_int) rfl) (xt_f (xt_not (xt_v (xe_all (ns := (dl.getD x dflt).waits.map fun _ => true) C 5 rfl (xe_lcP (own := [("_law_other", 9)]) (fun _ => some (.bl true)) C [5, 9] [9] [] (xi_t (xe_ixT (xe_ixT (xe_v C 1 rfl rfl rfl) (xe_ixT (xe_v C 3 rfl rfl rfl) xe_int rfl rfl) rfl (atI_nat (encDs_get (getD_some hx)))) xe_int rfl rfl) rfl) (by decide +kernel) (by decide +kernel) (LFs_nats _) (by rw [natsD_len]; omega) (fun m d hd => ?_) ?_) rfl))) (by simp))) (by intro z; cases z) (fun _ => ?_)
    · obtain ⟨j, hj, rfl⟩ := natsD_of hd
      refine ⟨_, _, true, rfl, fun Y hB D => (xg_n D 9 rfl rfl (lt_of rfl)), fun Y hB D => xts_nil, fun _ => ⟨_, rfl, fun Y hB D => xe_to (xe_isN (xe_ixT (xe_v D 5 rfl rfl rfl) (xe_v D 9 rfl rfl rfl) rfl (atI_nat (encCs_get (hw j (List.mem_of_getElem? hj)))))) rfl, rfl⟩, (by intro z; cases z), rfl⟩
    · rw [natsD_len, fm_some, List.map_map]
      exact range_get _ _ _ fun m x hx => rfl
    exact xss_ret (x := stD hd (cs.set x none)) (xe_tup (ds := [_, _]) (xa_cons (xe_v C 4 rfl rfl rfl) (xa_cons (xe_to (xe_catT (xe_catT (xe_slT (xe_v C 5 rfl rfl rfl) xo_none (xo_some (xe_ixT (xe_v C 3 rfl rfl rfl) xe_int rfl rfl)) rfl) (xe_tup (ds := [_]) (xa_cons xe_non xa_nil) (le_of rfl)) rfl rfl (cut_l1 (by omega) _ _ _)) (xe_slT (xe_v C 5 rfl rfl rfl) (xo_some (xe_add (xe_ixT (xe_v C 3 rfl rfl rfl) xe_int rfl rfl) xe_int)) xo_none rfl) rfl rfl (cut_l2 (by omega) _ _ _ _ _)) (congrArg D.tup (set_cut (c := none) (by omega)))) xa_nil)) (le_of rfl)) rfl (lf_st _ _)
  | @write b c h hd n dl x fo cs o hl hx hc h0 hf =>
    have hlen := o.len
    have hix : L2.atI (encCs cs) ((x : Nat) : Int) = some (encC (some (fo, n))) := atI_nat (encCs_get hc)
    refine xss_asg (xe_v C 2 rfl rfl rfl) (xg_t C (xgs_cons (xg_n C 4 rfl rfl (lt_of rfl)) (xgs_cons (xg_n C 5 rfl rfl (lt_of rfl)) xgs_nil)) rfl) ?_
    refine xss_if0 (xt_or3f (xt_not (xt_v (xe_isi C 0 rfl (xe_v C 3 rfl rfl rfl) (xe_bt (T := "tuple") C 1 rfl C.glb.tuple (by decide +kernel)) (q := true) rfl (by decide +kernel)))) (xt_f (xt_notin (ns := [2, 3]) (xe_len C 2 rfl (xe_v C 3 rfl rfl rfl) (.inr rfl)) (xe_tup (ds := [_, _]) (xa_cons xe_int (xa_cons xe_int xa_nil)) (le_of rfl)) (.inr rfl)) rfl) (xt_f (xt_not (xt_v (xn (xn_to (xe_call c_L_is_whole hr (by decide) C 3 rfl (xa_cons (xe_ixT (xe_v C 3 rfl rfl rfl) xe_int rfl rfl) (xa_cons xe_int (xa_cons (xe_sub (xe_len C 2 rfl (xe_v C 1 rfl rfl rfl) (.inr rfl)) xe_int) xa_nil))) (argc_ds _ [_, _, _]) .mk) (hwx hx))))) rfl)) (by intro z; cases z) (fun _ => ?_)
    refine xss_set C 6 rfl rfl (xe_ixT (xe_v C 5 rfl rfl rfl) (xe_ixT (xe_v C 3 rfl rfl rfl) xe_int rfl rfl) rfl hix) ?_ (lt_of rfl)
    refine xss_if0 (xt_or3f (xt_f (xt_isN (xe_v C 6 rfl rfl rfl)) rfl) (xt_f (xt_not (xt_v (xe_isi C 0 rfl (xe_ixT (xe_v C 3 rfl rfl rfl) xe_int rfl rfl) (xe_bt (T := "str") C 4 rfl C.glb.str (by decide +kernel)) (q := true) rfl (by decide +kernel)))) rfl) (xt_f (xt_ne (xe_eq (xe_len C 2 rfl (xe_v C 3 rfl rfl rfl) (.inr rfl)) xe_int opd_eqI) (xe_eq (xe_ixT (xe_v C 3 rfl rfl rfl) xe_int rfl rfl) xe_str opd_eqS) opd_neB) rfl)) (by intro z; cases z) (fun _ => ?_)
    refine xss_if0 (xt_f (xt_eq (xe_ixT (xe_v C 3 rfl rfl rfl) xe_int rfl rfl) xe_str opd_eqS) (decide_eq_false (by decide +kernel))) (by intro z; cases z) (fun _ => ?_)
    refine xss_if0 (xt_or2f (xt_f (xt_ne (xe_ixT (xe_v C 3 rfl rfl rfl) xe_int rfl rfl) xe_str opd_neS) (by decide +kernel)) (xt_f (xt_not (xt_v (xn (xn_to (xe_call c_L_is_whole hr (by decide) C 3 rfl (xa_cons (xe_ixT (xe_v C 3 rfl rfl rfl) xe_int rfl rfl) (xa_cons xe_int (xa_cons (xe_ixT (xe_v C 6 rfl rfl rfl) xe_int rfl rfl) xa_nil))) (argc_ds _ [_, _, _]) (whole_t (i := n) (lo := 1) (hi := n) (by omega) (by omega))) rfl)))) rfl)) (by intro z; cases z) (fun _ => ?_)
    have hn0 : n - n = 0 := by omega
    refine xss_set (x := .tup (encCs (cs.set x (some (some (fo.getD hd), 0))))) C 7 rfl rfl (xe_to (xe_catT (xe_catT (xe_slT (xe_v C 5 rfl rfl rfl) xo_none (xo_some (xe_ixT (xe_v C 3 rfl rfl rfl) xe_int rfl rfl)) rfl) (xe_tup (ds := [_]) (xa_cons (xe_tup (ds := [.int (fo.getD hd), .int 0]) (xa_cons (xe_if (xt_isN (xe_ixT (xe_v C 6 rfl rfl rfl) xe_int rfl rfl)) (fun hq => (xe_to (xe_v C 4 rfl rfl rfl) (by cases fo with | none => rfl | some f => cases hq))) (fun hq => (xe_to (xe_ixT (xe_v C 6 rfl rfl rfl) xe_int rfl rfl) (by cases fo with | none => cases hq | some f => rfl)))) (xa_cons (xe_to (xe_sub (xe_ixT (xe_v C 6 rfl rfl rfl) xe_int rfl rfl) (xe_ixT (xe_v C 3 rfl rfl rfl) xe_int rfl rfl)) (by rw [hn0])) xa_nil)) (le_of rfl)) xa_nil) (le_of rfl)) rfl rfl (cut_l1 (by omega) _ _ _)) (xe_slT (xe_v C 5 rfl rfl rfl) (xo_some (xe_add (xe_ixT (xe_v C 3 rfl rfl rfl) xe_int rfl rfl) xe_int)) xo_none rfl) rfl rfl (cut_l2 (by omega) _ _ _ _ _)) (congrArg D.tup (set_cut (c := some (some (fo.getD hd), 0)) (by omega)))) ?_ (lt_of rfl)
    have hl' : (cs.set x (some (some (fo.getD hd), 0))).length = dl.length := by rw [List.length_set, hl]
    have hmem : fo.getD hd ∈ fsC (cs.set x (some (some (fo.getD hd), 0))) := mem_fsC.mpr ⟨x, 0, by rw [List.getElem?_set, if_pos rfl, if_pos (by omega)]⟩
    generalize cs.set x (some (some (fo.getD hd), 0)) = cs' at hf hl' hmem ⊢
    refine xss_setLcP (own := [("_law_part", 10)]) (fun i => ((cs'.getD i none).bind (·.1)).map D.int) C 8 rfl rfl (by decide +kernel) [10] [10] [] (xi_t (xe_v C 7 rfl rfl rfl) rfl) (by decide +kernel) (by decide +kernel) (lf_cs cs') (by rw [encCs_len]; omega) (fun i d hd => ?_) (fsC_map cs') rfl rfl (by decide +kernel) (lt_of rfl) ?_
    · obtain ⟨c', e, rfl⟩ := encCs_of hd
      have e2 : cs'.getD i none = c' := by rw [List.getD_eq_getElem?_getD, e]; rfl
      cases c' with
      | none =>
        exact ⟨_, _, false, rfl, fun Y hB D => (xg_n D 10 rfl rfl (lt_of rfl)), fun Y hB D => (xts_one (xw (xw_and (xt_f (xt_notN (xe_v D 10 rfl rfl rfl)) rfl) (by intro z; cases z) (fun _ => ⟨rfl, rfl⟩)))), (by intro z; cases z), fun _ => by rw [e2]; rfl, rfl⟩
      | some fn =>
        obtain ⟨f1, n1⟩ := fn
        refine ⟨_, _, (!(optD f1).isNon), rfl, fun Y hB D => (xg_n D 10 rfl rfl (lt_of rfl)), fun Y hB D => (xts_one (xw (xw_and (xt_t (xt_notN (xe_v D 10 rfl rfl rfl)) rfl) (fun _ => (xw_and1 (xt_notN (xe_ixT (xe_v D 10 rfl rfl rfl) xe_int rfl rfl)))) (by intro z; cases z)))), fun hb => ⟨optD f1, ?_, fun Y hB D => (xe_ixT (xe_v D 10 rfl rfl rfl) xe_int rfl rfl), lf_optD _⟩, fun hb => ?_, rfl⟩
        · rw [e2]
          cases f1 with
          | none => cases hb
          | some f => rfl
        · rw [e2]
          cases f1 with
          | none => rfl
          | some f => cases hb
    · obtain ⟨m, m1, m2⟩ := min_ex (ns := fsC cs') (by intro z; rw [z] at hmem; cases hmem)
      have hle := hf m m1
      exact xss_ret (x := stD (hd + n) cs') (xe_if (xt_t (xt_le (xe_sub (xe_add (xe_v C 4 rfl rfl rfl) (xe_ixT (xe_v C 3 rfl rfl rfl) xe_int rfl rfl)) (xe_min C 6 rfl (xe_v C 8 rfl rfl rfl) rfl m1 m2)) (xe_v C 0 rfl rfl rfl)) (decide_eq_true hle)) (fun _ => (xe_tup (ds := [_, _]) (xa_cons (xe_add (xe_v C 4 rfl rfl rfl) (xe_ixT (xe_v C 3 rfl rfl rfl) xe_int rfl rfl)) (xa_cons (xe_v C 7 rfl rfl rfl) xa_nil)) (le_of rfl))) (by intro z; cases z)) rfl (lf_st _ _)
theorem c_L_step (D : Df K mg "_law_step" s_L_step) (hg : Glb mg) (c_L_is_whole : CalP P w K mg base 1 "_law_is_whole" (spD CS R_L_is_whole)) : CalP P w K mg base 2 "_law_step" (spD CS R_L_step) :=
  mkD D hg sc_L_step ok_L_step (by intro _ _ h; cases h <;> rfl) (fun X hX C hr ds r hR => b_L_step C hr (hX.cal c_L_is_whole) hR) (fun f fd F => F.binds fun _ _ _ _ _ _ us hl => match us, hl with | [_, _, _, _], _ => rfl)
end K06
/-! D18: the law takes a course. -/
namespace K06
open PySem PySem.Spec L2
variable {P : Program} {w : World} {K : PySem.W.Frag} {mg : Str → Option Value} {base : Heap} {CS : Addr} {X : Cx}
inductive Run (c : Int) (dl : List Deed) : D → List D → D → Prop
  | nil {s : D} : Run c dl s [] s
  | cons {s t u d : D} {ds : List D} : R_L_step [.int c, .tup (encDs dl), s, d] t → (∃ h cs, t = stD h cs) → Run c dl t ds u → Run c dl s (d :: ds) u
theorem Run.seq {c : Int} {dl : List Deed} {s u : D} {ds : List D} (r : Run c dl s ds u) : ∃ f : Nat → D, f 0 = s ∧ f ds.length = u ∧ ∀ i d, ds[i]? = some d → R_L_step [.int c, .tup (encDs dl), f i, d] (f (i + 1)) ∧ ∃ h cs, f (i + 1) = stD h cs := by
  induction r with
  | @nil s => exact ⟨fun _ => s, rfl, rfl, fun i d h => by simp at h⟩
  | @cons s t u d ds h1 h2 _ ih =>
    obtain ⟨f, f0, f1, f2⟩ := ih
    refine ⟨fun i => match i with | 0 => s | i + 1 => f i, rfl, f1, fun i d' h => ?_⟩
    cases i with
    | zero =>
      cases h
      refine ⟨?_, ?_⟩
      · show R_L_step _ (f 0)
        rw [f0]
        exact h1
      · show ∃ h cs, f 0 = _
        rw [f0]
        exact h2
    | succ i => exact f2 i d' h
theorem Run.app {c : Int} {dl : List Deed} {s t u : D} {as bs : List D} (r : Run c dl s as t) (r2 : Run c dl t bs u) : Run c dl s (as ++ bs) u := by
  induction r with
  | nil => exact r2
  | cons h1 h2 _ ih => exact .cons h1 h2 (ih r2)
/-- the steps along the order lead to the end -/
theorem run_steps {b c h : Int} {dl : List Deed} (o : Ok b h dl) (hf : fineB c h dl = true) : ∀ (n p : Nat), (goOut (wts dl) dl.length).length - p ≤ n →
    Run c dl (stD (h + needSum dl ((goOut (wts dl) dl.length).take p)) (stC dl ((goOut (wts dl) dl.length).take p))) (stepsD dl ((goOut (wts dl) dl.length).drop p)) (stD (h + needSum dl (goOut (wts dl) dl.length)) (stC dl (goOut (wts dl) dl.length)))
  | n, p, hn => by
    have hwl := wts_len dl
    have hall := goOut_all o.wf o.ac
    rw [hwl] at hall
    have hwr := fun x hx => write_fits o hf (p := p) (x := x) hx
    have ih := fun m (e : n = m + 1) q (z : (goOut (wts dl) dl.length).length - q ≤ m) => run_steps o hf m q z
    generalize goOut (wts dl) dl.length = ord at *
    obtain ⟨hg, hp⟩ := hall
    by_cases q : p < ord.length
    · obtain ⟨x, hx⟩ : ∃ x, ord[p]? = some x := ⟨_, List.getElem?_eq_getElem q⟩
      have hxl : x < dl.length := by rw [← hwl]; exact hg.lt x (List.mem_of_getElem? hx)
      have et : ord.take (p + 1) = ord.take p ++ [x] := by rw [List.take_add_one, hx]; rfl
      have ed : ord.drop p = x :: ord.drop (p + 1) := by
        rw [List.drop_eq_getElem_cons q]
        congr 1
        have := List.getElem?_eq_some_iff.mp hx
        exact this.2
      have hnt : x ∉ ord.take p := fun z => by
        obtain ⟨m, hm⟩ := List.mem_iff_getElem?.mp z
        rw [List.getElem?_take] at hm
        split at hm
        · have := (List.getElem?_inj (List.getElem?_eq_some_iff.mp hm).1 hg.nd).mp (hm.trans hx.symm)
          omega
        · cases hm
      have hcx := stC_get (f := ord.take p) hxl
      rw [if_neg hnt] at hcx
      have hww : ∀ j ∈ (dl.getD x dflt).waits, j < dl.length ∧ j ∈ ord.take p := fun j hj => ⟨(o.wt _ _ (getD_some hxl)).lt j hj, hg.bh p x hx _ (wts_get (getD_some hxl)) j hj⟩
      have hxw : x ∉ (dl.getD x dflt).waits := fun z => hnt (hww x z).2
      have ih' := ih (n - 1) (by omega) (p + 1) (by omega)
      rw [et, ← stC_set hxl, needSum_add, needAt_getD hxl] at ih'
      have h0 := (o.need _ (mem_dl hxl)).1
      rw [ed, stepsD]
      by_cases z : 0 < (dl.getD x dflt).need
      · rw [if_pos z]
        refine .cons (.write o (stC_len _ _) hxl hcx z (hwr x hx)) ⟨_, _, rfl⟩ (.cons (.go (fo := some ((dl.getD x dflt).first.getD (h + needSum dl (ord.take p)))) o (by rw [List.length_set]; exact stC_len _ _) hxl (by rw [List.getElem?_set, if_pos rfl, if_pos (by rw [stC_len]; exact hxl)]) (fun j hj => ?_)) ⟨_, _, rfl⟩ ?_)
        · have hne : x ≠ j := fun e => hxw (e ▸ hj)
          rw [List.getElem?_set, if_neg hne, stC_get (hww j hj).1, if_pos (hww j hj).2]
        · rw [List.set_set]
          have e : h + needSum dl (ord.take p) + (dl.getD x dflt).need = h + (needSum dl (ord.take p) + (dl.getD x dflt).need) := by omega
          rw [e]
          exact ih'
      · rw [if_neg z]
        have e0 : (dl.getD x dflt).need = 0 := by omega
        rw [e0] at hcx
        rw [e0, Int.add_zero] at ih'
        refine .cons (.go o (stC_len _ _) hxl hcx (fun j hj => ?_)) ⟨_, _, rfl⟩ ih'
        rw [stC_get (hww j hj).1, if_pos (hww j hj).2]
    · rw [List.drop_of_length_le (by omega), List.take_of_length_le (by omega)]
      exact .nil
inductive R_L_is_course : List D → D → Prop
  | mk {b c h : Int} {dl : List Deed} : Ok b h dl → fineB c h dl = true → 0 ≤ c → R_L_is_course [prt c h dl, .tup (stepsD dl (goOut (wts dl) dl.length))] (.bl true)
theorem cut2 (d : Deed) : D.tup (cutD [optD d.first, D.int d.need, D.tup (natsD d.waits)] none (some 2)) = encC (some (d.first, d.need)) := rfl
theorem stC_map (dl : List Deed) : (List.range (encDs dl).length).filterMap (fun i => some (encC (some ((dl.getD i dflt).first, (dl.getD i dflt).need)))) = encCs (stC dl []) := by
  rw [encDs_len, fm_some]
  unfold encCs stC
  rw [List.map_map]
  refine List.map_congr_left fun i _ => ?_
  simp
theorem b_L_is_course (C : Ctx X (defScope s_L_is_course) N_L_is_course V_L_is_course V_L_is_course G_L_is_course) (hr : Room 2 X.A) (c_L_used : CalX X 1 "_law_used" (spD CS R_L_used)) (c_L_step : CalX X 2 "_law_step" (spD CS R_L_step)) {ds : List D} {r : D} (hR : R_L_is_course ds r) :
    XSs X CS (defBody s_L_is_course) (startD N_L_is_course (ds.map Slot.im)) (Pr r) := by
  cases hR with
  | @mk b c h dl o hf h0 =>
    have hlen := o.len
    have hwl := wts_len dl
    obtain ⟨hg, hp⟩ := goOut_all o.wf o.ac
    rw [hwl] at hg hp
    obtain ⟨f, f0, f1, f2⟩ := (run_steps o hf _ 0 (Nat.le_refl _)).seq
    have hu : used0 h dl ≤ c := by
      rcases used_load o with e | ⟨i, hi, e⟩
      · omega
      · exact Int.le_trans e (fine_at hf hi)
    have e0 : stD (h + needSum dl ((goOut (wts dl) dl.length).take 0)) (stC dl ((goOut (wts dl) dl.length).take 0)) = stD h (stC dl []) := by
      rw [List.take_zero]
      have : h + needSum dl [] = h := by simp [needSum]
      rw [this]
    rw [e0] at f0
    rw [List.drop_zero] at f1 f2
    refine xss_asg (xe_v C 0 rfl rfl rfl) (xg_t C (xgs_cons (xg_n C 2 rfl rfl (lt_of rfl)) (xgs_cons (xg_n C 3 rfl rfl (lt_of rfl)) (xgs_cons (xg_n C 4 rfl rfl (lt_of rfl)) xgs_nil))) rfl) ?_
    refine xss_set (x := stD h (stC dl [])) C 5 rfl rfl (xe_tup (ds := [_, _]) (xa_cons (xe_v C 3 rfl rfl rfl) (xa_cons (xe_tuple C 0 rfl (xe_lcP (own := [("_law_deed", 7)]) (fun i => some (encC (some ((dl.getD i dflt).first, (dl.getD i dflt).need)))) C [7] [7] [] (xi_t (xe_v C 4 rfl rfl rfl) rfl) (by decide +kernel) (by decide +kernel) (lf_encs dl) (by rw [encDs_len]; omega) (fun i d hd => ?_) (stC_map dl)) rfl) xa_nil)) (le_of rfl)) ?_ (lt_of rfl)
    · obtain ⟨dd, e, rfl⟩ := encDs_of hd
      have e2 := getD_of e
      exact ⟨_, _, true, rfl, fun Y hB D => (xg_n D 7 rfl rfl (lt_of rfl)), fun Y hB D => xts_nil, fun _ => ⟨_, rfl, fun Y hB D => xe_to (xe_slT (xe_v D 7 rfl rfl rfl) xo_none (xo_some xe_int) rfl) (by rw [e2]; exact cut2 dd), lf_c _⟩, (by intro z; cases z), rfl⟩
    rw [← f0]
    refine xss_if0 (xt_or2f (xt_f (xt_not (xt_v (xe_isi C 1 rfl (xe_v C 1 rfl rfl rfl) (xe_bt (T := "tuple") C 0 rfl C.glb.tuple (by decide +kernel)) (q := true) rfl (by decide +kernel)))) rfl) (xt_f (xt_gt (xn (xe_call c_L_used hr (by decide) C 2 rfl (xa_cons (xe_v C 3 rfl rfl rfl) (xa_cons (xe_v C 4 rfl rfl rfl) xa_nil)) (argc_ds _ [_, _]) (.mk o))) (xe_v C 2 rfl rfl rfl)) (decide_eq_false (by omega)))) (by intro z; cases z) (fun _ => ?_)
    refine xss_for C (xi_t (xe_v C 1 rfl rfl rfl) rfl) (fun i δ => ∃ x6, δ = [some (.im (prt c h dl)), some (.im (.tup (stepsD dl (goOut (wts dl) dl.length)))), some (.im (.int c)), some (.im (.int h)), some (.im (.tup (encDs dl))), some (.im (f i)), x6, none, none]) _ ⟨none, rfl⟩ (fun i d δ hd hI => ?_) (fun δ z => z) (fun δ hI => ?_)
    · obtain ⟨x6, rfl⟩ := hI
      obtain ⟨hs, h', cs', e⟩ := f2 i d hd
      refine ⟨_, _, (xg_n C 6 rfl rfl (lt_of rfl)), ?_⟩
      refine xss_set (x := f (i + 1)) C 5 rfl rfl (xn (xe_call c_L_step hr (by decide) C 3 rfl (xa_cons (xe_v C 2 rfl rfl rfl) (xa_cons (xe_v C 4 rfl rfl rfl) (xa_cons (xe_v C 5 rfl rfl rfl) (xa_cons (xe_v C 6 rfl rfl rfl) xa_nil)))) (argc_ds _ [_, _, _, _]) hs)) ?_ (lt_of rfl)
      exact xss_if0 (xt_f (xt_isN (xe_v C 5 rfl rfl rfl)) (by rw [e]; rfl)) (by intro z; cases z) (fun _ => xss_nil ⟨_, rfl⟩)
    · obtain ⟨x6, rfl⟩ := hI
      rw [f1]
      refine xss_ret (xe_b (xe_all (ns := (stC dl (goOut (wts dl) dl.length)).map fun _ => true) C 4 rfl (xe_lcP (own := [("_law_here", 8)]) (fun _ => some (.bl true)) C [8] [8] [] (xi_t (xe_ixT (ds := [_, _]) (xe_v C 5 rfl rfl rfl) xe_int rfl rfl) rfl) (by decide +kernel) (by decide +kernel) (lf_cs _) (by rw [encCs_len, stC_len]; omega) (fun m d hd => ?_) ?_) rfl) (by simp)) rfl rfl
      · obtain ⟨c', hc', rfl⟩ := encCs_of hd
        have hm : m < dl.length := by
          have := (List.getElem?_eq_some_iff.mp hc').1
          rwa [stC_len] at this
        rw [stC_get hm, if_pos (hp.mem_iff.mpr (List.mem_range.mpr hm))] at hc'
        cases hc'
        exact ⟨_, _, true, rfl, fun Y hB D => (xg_n D 8 rfl rfl (lt_of rfl)), fun Y hB D => xts_nil, fun _ => ⟨_, rfl, fun Y hB D => xe_to (xe_isN (xe_v D 8 rfl rfl rfl)) rfl, rfl⟩, (by intro z; cases z), rfl⟩
      · rw [encCs_len, fm_some, List.map_map]
        exact range_get _ _ _ fun m x hx => rfl
theorem c_L_is_course (D : Df K mg "_law_is_course" s_L_is_course) (hg : Glb mg) (c_L_used : CalP P w K mg base 1 "_law_used" (spD CS R_L_used)) (c_L_step : CalP P w K mg base 2 "_law_step" (spD CS R_L_step)) : CalP P w K mg base 3 "_law_is_course" (spD CS R_L_is_course) :=
  mkD D hg sc_L_is_course ok_L_is_course (by intro _ _ h; cases h <;> rfl) (fun X hX C hr ds r hR => b_L_is_course C hr (hX.cal c_L_used) (hX.cal c_L_step) hR) (fun f fd F => F.binds fun _ _ _ _ _ _ us hl => match us, hl with | [_, _], _ => rfl)
end K06
/-! M13: the flood: no way leads to the end where a load is too great; plain Lean. -/
namespace K06
def leftC : Cell → Int
  | none => 0
  | some (_, n) => n
def leftAt (cs : List Cell) (x : Nat) : Int := leftC (cs.getD x none)
def leftSum (cs : List Cell) (l : List Nat) : Int := (l.map (leftAt cs)).sum
theorem cellD {cs : List Cell} {i : Nat} {c : Cell} (h : cs[i]? = some c) : cs.getD i none = c := by rw [List.getD_eq_getElem?_getD, h]; rfl
theorem cellS {cs : List Cell} {i : Nat} {p : Option Int × Int} (h : cs.getD i none = some p) : cs[i]? = some (some p) := by
  rw [List.getD_eq_getElem?_getD] at h
  cases q : cs[i]? with
  | none => rw [q] at h; cases h
  | some c => rw [q] at h; exact congrArg some h
theorem cell_set {cs : List Cell} {i j : Nat} {c : Cell} (hi : i < cs.length) : (cs.set i c).getD j none = if j = i then c else cs.getD j none := by
  rw [List.getD_eq_getElem?_getD, List.getD_eq_getElem?_getD, List.getElem?_set]
  by_cases q : i = j
  · rw [if_pos q, if_pos (by omega), if_pos q.symm]; rfl
  · rw [if_neg q, if_neg (fun z => q z.symm)]
theorem leftAt_set {cs : List Cell} {i j : Nat} {c : Cell} (hi : i < cs.length) : leftAt (cs.set i c) j = if j = i then leftC c else leftAt cs j := by
  unfold leftAt
  rw [cell_set hi]
  by_cases q : j = i
  · rw [if_pos q, if_pos q]
  · rw [if_neg q, if_neg q]
theorem leftSum_cons (cs : List Cell) (x : Nat) (l : List Nat) : leftSum cs (x :: l) = leftAt cs x + leftSum cs l := by simp [leftSum]
theorem leftSum_set {cs : List Cell} {i : Nat} {c : Cell} (hi : i < cs.length) : ∀ {l : List Nat}, l.Nodup → leftSum (cs.set i c) l = leftSum cs l + if i ∈ l then leftC c - leftAt cs i else 0
  | [], _ => by simp [leftSum]
  | x :: l, nd => by
    have nd' := List.nodup_cons.mp nd
    rw [leftSum_cons, leftSum_cons, leftSum_set hi nd'.2, leftAt_set hi]
    by_cases q : x = i
    · rw [if_pos q, if_neg (by rw [← q]; exact nd'.1), if_pos (by rw [q]; exact List.mem_cons_self)]
      rw [q]; omega
    · rw [if_neg q]
      by_cases z : i ∈ l
      · rw [if_pos z, if_pos (List.mem_cons_of_mem _ z)]; omega
      · rw [if_neg z, if_neg (fun y => (List.mem_cons.mp y).elim (fun e => q e.symm) z)]; omega
theorem leftSum_zero {cs : List Cell} : ∀ {l : List Nat}, (∀ x ∈ l, leftAt cs x = 0) → leftSum cs l = 0
  | [], _ => rfl
  | x :: l, h => by
    rw [leftSum_cons, h x List.mem_cons_self, leftSum_zero fun y hy => h y (List.mem_cons_of_mem _ hy)]
    rfl
theorem leftSum_nn {cs : List Cell} : ∀ {l : List Nat}, (∀ x ∈ l, 0 ≤ leftAt cs x) → 0 ≤ leftSum cs l ∧ ∀ x ∈ l, leftAt cs x ≤ leftSum cs l
  | [], _ => ⟨Int.le_refl 0, fun x h => by cases h⟩
  | y :: l, h => by
    have h1 := h y List.mem_cons_self
    have ih := leftSum_nn (cs := cs) (l := l) fun x hx => h x (List.mem_cons_of_mem _ hx)
    rw [leftSum_cons]
    refine ⟨by omega, fun x hx => ?_⟩
    rcases List.mem_cons.mp hx with e | e
    · rw [e]; omega
    · have := ih.2 x e; omega

/-- the deed at i moves -/
def mvAt (c : Int) (ws : List (List Nat)) (h : Int) (cs : List Cell) (i : Nat) : List (Int × List Cell) :=
  match cs.getD i none with
  | none => []
  | some (f, n) =>
    if 0 < n then (if ∀ y ∈ fsC (cs.set i (some (some (f.getD h), n - 1))), h + 1 - y ≤ c then [(h + 1, cs.set i (some (some (f.getD h), n - 1)))] else [])
    else if n = 0 ∧ ∀ o ∈ ws.getD i [], cs.getD o none = none then [(h, cs.set i none)] else []
def mvF (c : Int) (ws : List (List Nat)) (h : Int) (cs : List Cell) : Nat → List (Int × List Cell)
  | 0 => []
  | i + 1 => mvF c ws h cs i ++ mvAt c ws h cs i
inductive Mv (c : Int) (ws : List (List Nat)) (h : Int) (cs : List Cell) : Int → List Cell → Prop
  | write {i : Nat} {f : Option Int} {n : Int} : cs[i]? = some (some (f, n)) → 0 < n → (∀ y ∈ fsC (cs.set i (some (some (f.getD h), n - 1))), h + 1 - y ≤ c) → Mv c ws h cs (h + 1) (cs.set i (some (some (f.getD h), n - 1)))
  | go {i : Nat} {f : Option Int} : cs[i]? = some (some (f, 0)) → (∀ o ∈ ws.getD i [], cs.getD o none = none) → Mv c ws h cs h (cs.set i none)
theorem mvAt_mv {c : Int} {ws : List (List Nat)} {h : Int} {cs : List Cell} {i : Nat} {p : Int × List Cell} (m : p ∈ mvAt c ws h cs i) : Mv c ws h cs p.1 p.2 := by
  unfold mvAt at m
  split at m
  · cases m
  · next f n e =>
    split at m
    · next h0 =>
      split at m
      · next h1 =>
        rw [List.mem_singleton] at m
        rw [m]
        exact .write (cellS e) h0 h1
      · cases m
    · split at m
      · next h1 =>
        rw [List.mem_singleton] at m
        rw [m]
        exact .go (h1.1 ▸ cellS e) h1.2
      · cases m
theorem mvF_mv {c : Int} {ws : List (List Nat)} {h : Int} {cs : List Cell} {p : Int × List Cell} : ∀ {n : Nat}, p ∈ mvF c ws h cs n → Mv c ws h cs p.1 p.2
  | 0, m => by cases m
  | n + 1, m => by
    rcases List.mem_append.mp m with e | e
    · exact mvF_mv e
    · exact mvAt_mv e
theorem mvAt_len (c : Int) (ws : List (List Nat)) (h : Int) (cs : List Cell) (i : Nat) : (mvAt c ws h cs i).length ≤ 1 := by
  unfold mvAt
  split
  · exact Nat.zero_le _
  · split
    · split <;> simp
    · split <;> simp
theorem mvF_len (c : Int) (ws : List (List Nat)) (h : Int) (cs : List Cell) : ∀ n, (mvF c ws h cs n).length ≤ n
  | 0 => Nat.le_refl 0
  | n + 1 => by
    have := mvF_len c ws h cs n
    have := mvAt_len c ws h cs n
    rw [mvF, List.length_append]
    omega

/-- what holds of each state -/
structure FI (c : Int) (dl : List Deed) (h : Int) (cs : List Cell) : Prop where
  len : cs.length = dl.length
  nn : ∀ (i : Nat) (f : Option Int) (n : Int), cs[i]? = some (some (f, n)) → 0 ≤ n
  gc : ∀ (i : Nat), cs[i]? = some none → ∀ l, (wts dl)[i]? = some l → ∀ j ∈ l, cs.getD j none = none
  fit : ∀ f ∈ fsC cs, h - f ≤ c
def ExN (c h : Int) (cs : List Cell) (d : Nat) : Prop := (∃ n, cs[d]? = some (some (none, n)) ∧ c < n) ∨ ∃ f n, cs[d]? = some (some (some f, n)) ∧ c < h - f + n
structure ExS (c : Int) (dl : List Deed) (h : Int) (cs : List Cell) (d : Nat) (f0 : Int) : Prop where
  al : ∃ x, x ≤ d ∧ ∃ p, cs[x]? = some (some p)
  el : ∀ (x : Nat), x ≤ d → ∀ (f : Option Int) (n : Int), cs[x]? = some (some (f, n)) → ∃ y, f = some y ∧ y ≤ f0
  sm : c < h - f0 + leftSum cs (clo (wts dl) (List.range (d + 1)))
structure FL (c : Int) (dl : List Deed) (h : Int) (cs : List Cell) : Prop where
  i : FI c dl h cs
  x : ∃ d, d < dl.length ∧ (ExN c h cs d ∨ ∃ f0, ExS c dl h cs d f0)
theorem FL.alive {c : Int} {dl : List Deed} {h : Int} {cs : List Cell} (l : FL c dl h cs) : ∃ (i : Nat) (p : Option Int × Int), cs[i]? = some (some p) := by
  obtain ⟨d, _, (⟨n, e, _⟩ | ⟨f, n, e, _⟩) | ⟨f0, q⟩⟩ := l.x
  · exact ⟨d, _, e⟩
  · exact ⟨d, _, e⟩
  · obtain ⟨x, _, p, e⟩ := q.al
    exact ⟨x, p, e⟩
theorem FI.step {c : Int} {dl : List Deed} {h h' : Int} {cs cs' : List Cell} (k : FI c dl h cs) (m : Mv c (wts dl) h cs h' cs') : FI c dl h' cs' := by
  cases m with
  | @write i f n e n0 hf =>
    have hi : i < cs.length := (List.getElem?_eq_some_iff.mp e).1
    refine ⟨by rw [List.length_set]; exact k.len, fun j f' n' q => ?_, fun j q l hl o ho => ?_, hf⟩
    · rw [List.getElem?_set] at q
      split at q
      · cases q
        omega
      · exact k.nn j f' n' q
    · rw [List.getElem?_set] at q
      split at q
      · cases q
      · have z := k.gc j q l hl o ho
        rw [cell_set hi, if_neg (fun y => by rw [y, cellD e] at z; cases z)]
        exact z
  | @go i f e hw =>
    have hi : i < cs.length := (List.getElem?_eq_some_iff.mp e).1
    refine ⟨by rw [List.length_set]; exact k.len, fun j f' n' q => ?_, fun j q l hl o ho => ?_, fun f' hf' => ?_⟩
    · rw [List.getElem?_set] at q
      split at q
      · cases q
      · exact k.nn j f' n' q
    · rw [cell_set hi]
      by_cases y : o = i
      · rw [if_pos y]
      · rw [if_neg y]
        rw [List.getElem?_set] at q
        split at q
        · next ej =>
          subst ej
          refine hw o ?_
          rw [List.getD_eq_getElem?_getD, hl]
          exact ho
        · exact k.gc j q l hl o ho
    · obtain ⟨j, n', q⟩ := mem_fsC.mp hf'
      rw [List.getElem?_set] at q
      split at q
      · cases q
      · exact k.fit f' (mem_fsC.mpr ⟨j, n', q⟩)
theorem ExN.step {c : Int} {dl : List Deed} {h h' : Int} {cs cs' : List Cell} {d : Nat} (c0 : 0 ≤ c) (k : FI c dl h cs) (x : ExN c h cs d) (m : Mv c (wts dl) h cs h' cs') : ExN c h' cs' d := by
  cases m with
  | @write i f n e n0 hf =>
    have hi : i < cs.length := (List.getElem?_eq_some_iff.mp e).1
    by_cases y : i = d
    · subst y
      have e2 : (cs.set i (some (some (f.getD h), n - 1)))[i]? = some (some (some (f.getD h), n - 1)) := by rw [List.getElem?_set, if_pos rfl, if_pos hi]
      rcases x with ⟨n', q, hc⟩ | ⟨f', n', q, hc⟩
      · rw [e] at q
        cases q
        refine .inr ⟨h, n - 1, e2, by omega⟩
      · rw [e] at q
        cases q
        refine .inr ⟨f', n - 1, e2, by omega⟩
    · rcases x with ⟨n', q, hc⟩ | ⟨f', n', q, hc⟩
      · exact .inl ⟨n', by rw [List.getElem?_set, if_neg y]; exact q, hc⟩
      · exact .inr ⟨f', n', by rw [List.getElem?_set, if_neg y]; exact q, by omega⟩
  | @go i f e hw =>
    by_cases y : i = d
    · subst y
      rcases x with ⟨n', q, hc⟩ | ⟨f', n', q, hc⟩
      · rw [e] at q
        cases q
        omega
      · rw [e] at q
        cases q
        have := k.fit f' (mem_fsC.mpr ⟨_, _, e⟩)
        omega
    · rcases x with ⟨n', q, hc⟩ | ⟨f', n', q, hc⟩
      · exact .inl ⟨n', by rw [List.getElem?_set, if_neg y]; exact q, hc⟩
      · exact .inr ⟨f', n', by rw [List.getElem?_set, if_neg y]; exact q, by omega⟩
theorem ExS.step {c : Int} {dl : List Deed} {h h' f0 : Int} {cs cs' : List Cell} {d : Nat} (hw2 : WfW (wts dl)) (hd : d < dl.length) (k : FI c dl h cs) (x : ExS c dl h cs d f0) (m : Mv c (wts dl) h cs h' cs') : ExS c dl h' cs' d f0 := by
  have nd : (clo (wts dl) (List.range (d + 1))).Nodup := up_nodup (clo_up _ _)
  have hl2 : ∀ x ∈ List.range (d + 1), x < (wts dl).length := fun x hx => by
    have := List.mem_range.mp hx
    rw [wts_len]
    omega
  cases m with
  | @write i f n e n0 hf =>
    have hi : i < cs.length := (List.getElem?_eq_some_iff.mp e).1
    have e2 : (cs.set i (some (some (f.getD h), n - 1)))[i]? = some (some (some (f.getD h), n - 1)) := by rw [List.getElem?_set, if_pos rfl, if_pos hi]
    refine ⟨?_, fun y hy f' n' q => ?_, ?_⟩
    · obtain ⟨y, hy, p, q⟩ := x.al
      by_cases z : i = y
      · subst z; exact ⟨i, hy, _, e2⟩
      · exact ⟨y, hy, p, by rw [List.getElem?_set, if_neg z]; exact q⟩
    · by_cases z : i = y
      · subst z
        rw [e2] at q
        cases q
        obtain ⟨w, e3, h3⟩ := x.el i hy f n e
        subst e3
        exact ⟨w, rfl, h3⟩
      · rw [List.getElem?_set, if_neg z] at q
        exact x.el y hy f' n' q
    · have s := x.sm
      rw [leftSum_set hi nd]
      have el : leftAt cs i = n := by unfold leftAt; rw [cellD e]; rfl
      rw [el]
      have e3 : leftC (some (some (f.getD h), n - 1)) = n - 1 := rfl
      rw [e3]
      split <;> omega
  | @go i f e hw =>
    have hi : i < cs.length := (List.getElem?_eq_some_iff.mp e).1
    refine ⟨Classical.byContradiction fun no => ?_, fun y hy f' n' q => ?_, ?_⟩
    · have gone : ∀ y, y ≤ d → y ≠ i → cs.getD y none = none := fun y hy hne => by
        cases q : cs.getD y none with
        | none => rfl
        | some p => exact absurd ⟨y, hy, p, by rw [List.getElem?_set, if_neg (fun z => hne z.symm)]; exact cellS q⟩ no
      obtain ⟨y, hy, p, q⟩ := x.al
      have hyi : y = i := Classical.byContradiction fun z => by
        have := gone y hy z
        rw [cellD q] at this
        cases this
      subst hyi
      obtain ⟨w, e3, h3⟩ := x.el y hy f 0 e
      subst e3
      have hfit := k.fit w (mem_fsC.mpr ⟨_, _, e⟩)
      have rc : ∀ j, Reach (wts dl) (List.range (d + 1)) j → j = y ∨ cs.getD j none = none := fun j r => by
        induction r with
        | @base j hj =>
          have := List.mem_range.mp hj
          by_cases z : j = y
          · exact .inl z
          · exact .inr (gone j (by omega) z)
        | @step a b l _ hl hb ih =>
          right
          rcases ih with z | z
          · subst z
            refine hw b ?_
            rw [List.getD_eq_getElem?_getD, hl]
            exact hb
          · have ha : a < cs.length := by
              rw [k.len, ← wts_len dl]
              exact (List.getElem?_eq_some_iff.mp hl).1
            refine k.gc a ?_ l hl b hb
            rw [List.getElem?_eq_getElem ha]
            rw [List.getD_eq_getElem?_getD, List.getElem?_eq_getElem ha] at z
            exact congrArg some z
      have s := x.sm
      rw [leftSum_zero (fun j hj => ?_)] at s
      · omega
      · have hj' := (mem_clo hw2 hl2 j).mp hj
        unfold leftAt
        rcases rc j hj' with z | z
        · rw [z, cellD e]; rfl
        · rw [z]; rfl
    · by_cases z : i = y
      · rw [List.getElem?_set, if_pos z, if_pos hi] at q
        cases q
      · rw [List.getElem?_set, if_neg z] at q
        exact x.el y hy f' n' q
    · have s := x.sm
      rw [leftSum_set hi nd]
      have el : leftAt cs i = 0 := by unfold leftAt; rw [cellD e]; rfl
      rw [el]
      have e3 : leftC none = 0 := rfl
      rw [e3]
      split <;> omega
theorem FL.step {c : Int} {dl : List Deed} {h h' : Int} {cs cs' : List Cell} (c0 : 0 ≤ c) (hw : WfW (wts dl)) (k : FL c dl h cs) (m : Mv c (wts dl) h cs h' cs') : FL c dl h' cs' := by
  obtain ⟨d, hd, x | ⟨f0, x⟩⟩ := k.x
  · exact ⟨k.i.step m, d, hd, .inl (x.step c0 k.i m)⟩
  · exact ⟨k.i.step m, d, hd, .inr ⟨f0, x.step hw hd k.i m⟩⟩
theorem stC0_at {dl : List Deed} {i : Nat} {c : Cell} (h : (stC dl [])[i]? = some c) : i < dl.length ∧ c = some ((dl.getD i dflt).first, (dl.getD i dflt).need) := by
  have hi : i < dl.length := by rw [← stC_len dl []]; exact (List.getElem?_eq_some_iff.mp h).1
  rw [stC_get hi, if_neg (by simp)] at h
  exact ⟨hi, (Option.some.inj h).symm⟩
theorem stC0_left {dl : List Deed} : ∀ {l : List Nat}, (∀ x ∈ l, x < dl.length) → leftSum (stC dl []) l = needSum dl l
  | [], _ => rfl
  | x :: l, h => by
    have hx := h x List.mem_cons_self
    have e : needSum dl (x :: l) = needAt dl x + needSum dl l := by simp [needSum]
    rw [leftSum_cons, e, stC0_left fun y hy => h y (List.mem_cons_of_mem _ hy), needAt_getD hx]
    unfold leftAt
    rw [cellD (stC_get hx), if_neg (by simp)]
    rfl
/-- at the start -/
theorem FL.start {b c h : Int} {dl : List Deed} (o : Ok b h dl) (hf : fineB c h dl = false) (hu : used0 h dl ≤ c) : FL c dl h (stC dl []) := by
  have hwl := wts_len dl
  refine ⟨⟨stC_len _ _, fun i f n e => ?_, fun i e => ?_, fun f hm => ?_⟩, ?_⟩
  · obtain ⟨hi, e2⟩ := stC0_at e
    cases e2
    exact (o.need _ (mem_dl hi)).1
  · obtain ⟨_, e2⟩ := stC0_at e
    cases e2
  · obtain ⟨j, n, e⟩ := mem_fsC.mp hm
    obtain ⟨hj, e2⟩ := stC0_at e
    have e3 : (dl.getD j dflt).first = some f := by injection e2 with q; injection q with q1 q2; exact q1.symm
    have hmem : f ∈ firstsL dl := List.mem_filterMap.mpr ⟨_, mem_dl hj, e3⟩
    rcases used_of o with ⟨q, _⟩ | ⟨m, _, m2, m3, _⟩
    · rw [q] at hmem; cases hmem
    · have := m2 f hmem
      omega
  · have hex : ∃ d, d < dl.length ∧ c < load h dl d := Classical.byContradiction fun no => by
      have : fineB c h dl = true := by
        unfold fineB loads
        rw [List.all_eq_true]
        intro l hl
        obtain ⟨i, hi, rfl⟩ := List.mem_map.mp hl
        have := List.mem_range.mp hi
        refine decide_eq_true (Int.not_lt.mp fun z => no ⟨i, this, z⟩)
      rw [this] at hf
      cases hf
    obtain ⟨d, hd, hl⟩ := hex
    refine ⟨d, hd, ?_⟩
    have hdg := getD_some hd
    have hcell := stC_get (f := []) hd
    rw [if_neg (by simp)] at hcell
    cases q : (dl.getD d dflt).first with
    | none =>
      left; left
      rw [q] at hcell
      rw [load_none hdg q] at hl
      exact ⟨_, hcell, hl⟩
    | some f0 =>
      right
      rw [load_some hdg q] at hl
      refine ⟨f0, ⟨d, Nat.le_refl d, _, hcell⟩, fun x hx f n e => ?_, ?_⟩
      · obtain ⟨hxl, e2⟩ := stC0_at e
        cases e2
        by_cases z : x = d
        · rw [z, q]
          exact ⟨f0, rfl, Int.le_refl _⟩
        · rcases o.elder (getD_some hxl) hdg (by omega) with y | ⟨a, b', ha, hb, hab⟩
          · rw [q] at y; cases y
          · rw [q] at hb
            cases hb
            exact ⟨a, ha, by omega⟩
      · rw [stC0_left (fun x hx => by have := clo_lt hx; omega)]
        exact hl

/-! ### the measure -/
def rkC : Cell → Nat
  | none => 0
  | some (_, n) => n.toNat + 1
def rk (cs : List Cell) : Nat := (cs.map rkC).sum
theorem rk_set : ∀ {cs : List Cell} {i : Nat} {c c' : Cell}, cs[i]? = some c → rk (cs.set i c') + rkC c = rk cs + rkC c'
  | [], i, c, c', e => by simp at e
  | a :: cs, 0, c, c', e => by
    have : a = c := by simpa using e
    subst this
    simp [rk]
    omega
  | a :: cs, i + 1, c, c', e => by
    have ih := rk_set (cs := cs) (i := i) (c := c) (c' := c') (by simpa using e)
    simp only [rk, List.set_cons_succ, List.map_cons, List.sum_cons] at ih ⊢
    omega
theorem Mv.rk {c : Int} {ws : List (List Nat)} {h h' : Int} {cs cs' : List Cell} (m : Mv c ws h cs h' cs') : rk cs' + 1 = rk cs := by
  cases m with
  | @write i f n e n0 hf =>
    have := rk_set (c' := some (some (f.getD h), n - 1)) e
    simp only [rkC] at this
    omega
  | @go i f e hw =>
    have := rk_set (c' := none) e
    simp only [rkC] at this
    have z : (0 : Int).toNat = 0 := rfl
    omega
/-- what the waiting weigh -/
def wt (b : Nat) (l : List (Int × List Cell)) : Nat := (l.map fun p => b ^ rk p.2).sum
theorem wt_app (b : Nat) (as bs : List (Int × List Cell)) : wt b (as ++ bs) = wt b as + wt b bs := by simp [wt, List.map_append, List.sum_append]
theorem wt_one (b : Nat) (p : Int × List Cell) : wt b [p] = b ^ rk p.2 := by simp [wt]
theorem wt_le {b r : Nat} : ∀ {l : List (Int × List Cell)}, (∀ p ∈ l, rk p.2 + 1 = r) → wt b l * b = l.length * b ^ r
  | [], _ => by simp [wt]
  | p :: l, h => by
    have ih := wt_le (b := b) (r := r) (l := l) fun q hq => h q (List.mem_cons_of_mem _ hq)
    have hp := h p List.mem_cons_self
    have e : wt b (p :: l) = b ^ rk p.2 + wt b l := by simp [wt]
    rw [e, Nat.add_mul, ih, ← Nat.pow_succ, Nat.succ_eq_add_one, hp, List.length_cons, Nat.add_mul, Nat.one_mul, Nat.add_comm]
theorem wt_lt {b r : Nat} {l : List (Int × List Cell)} (h : ∀ p ∈ l, rk p.2 + 1 = r) (hb : l.length < b) : wt b l < b ^ r := by
  have e := wt_le (b := b) h
  have hp : 0 < b ^ r := Nat.pow_pos (by omega)
  have : wt b l * b < b ^ r * b := by
    rw [e, Nat.mul_comm (b ^ r) b]
    exact Nat.mul_lt_mul_of_pos_right hb hp
  exact Nat.lt_of_mul_lt_mul_right this

/-! ### how many states there are -/
def fsD (h0 : Int) (d : Deed) : List Int := match d.first with
  | some f => [f]
  | none => (List.range 11).map fun i => h0 + ((i : Nat) : Int)
def cand (h0 : Int) (d : Deed) : List Cell := none :: some (d.first, d.need) :: ((fsD h0 d).map fun f => (List.range d.need.toNat).map fun l => (some (some f, ((l : Nat) : Int)) : Cell)).flatten
theorem fsD_len (h0 : Int) (d : Deed) : (fsD h0 d).length ≤ 11 := by
  unfold fsD
  split <;> simp
theorem flat_len {α : Type} {k : Nat} : ∀ {l : List (List α)}, (∀ x ∈ l, x.length = k) → l.flatten.length = l.length * k
  | [], _ => by simp
  | x :: l, h => by
    rw [List.flatten_cons, List.length_append, h x List.mem_cons_self, flat_len fun y hy => h y (List.mem_cons_of_mem _ hy), List.length_cons, Nat.add_mul, Nat.one_mul, Nat.add_comm]
theorem pow7 : ∀ m : Nat, 2 + 11 * m ≤ 7 * 2 ^ m
  | 0 => by decide
  | 1 => by decide
  | 2 => by decide
  | m + 3 => by
    have := pow7 (m + 2)
    rw [Nat.pow_succ]
    omega
theorem cand_len (h0 : Int) (d : Deed) : (cand h0 d).length ≤ 7 * 2 ^ d.need.toNat := by
  have e : (cand h0 d).length = (fsD h0 d).length * d.need.toNat + 2 := by
    unfold cand
    rw [List.length_cons, List.length_cons, flat_len (k := d.need.toNat) (fun x hx => by obtain ⟨f, _, rfl⟩ := List.mem_map.mp hx; simp), List.length_map]
  have h1 := fsD_len h0 d
  have h2 := Nat.mul_le_mul_right d.need.toNat h1
  have h3 := pow7 d.need.toNat
  omega
def prods {α : Type} : List (List α) → List (List α)
  | [] => [[]]
  | c :: r => (c.map fun x => (prods r).map fun y => x :: y).flatten
theorem mem_prods {α : Type} : ∀ {cs : List (List α)} {l : List α}, l.length = cs.length → (∀ (i : Nat) (x : α), l[i]? = some x → ∃ c, cs[i]? = some c ∧ x ∈ c) → l ∈ prods cs
  | [], l, hl, _ => by
    have : l = [] := List.length_eq_zero_iff.mp (by simpa using hl)
    rw [this]
    simp [prods]
  | c :: cs, [], hl, _ => by simp at hl
  | c :: cs, x :: l, hl, h => by
    obtain ⟨c', e, hx⟩ := h 0 x rfl
    have : c = c' := by simpa using e
    subst this
    have ih := mem_prods (cs := cs) (l := l) (by simpa using hl) fun i y hy => by
      obtain ⟨c'', e2, h2⟩ := h (i + 1) y (by simpa using hy)
      exact ⟨c'', by simpa using e2, h2⟩
    rw [prods]
    exact List.mem_flatten.mpr ⟨_, List.mem_map.mpr ⟨x, hx, rfl⟩, List.mem_map.mpr ⟨l, ih, rfl⟩⟩
theorem prods_len {h0 : Int} : ∀ {dl : List Deed}, (prods (dl.map (cand h0))).length ≤ 7 ^ dl.length * 2 ^ ((dl.map fun d => d.need.toNat).sum)
  | [] => by simp [prods]
  | d :: dl => by
    have ih := prods_len (h0 := h0) (dl := dl)
    have hc := cand_len h0 d
    rw [List.map_cons, prods, flat_len (k := (prods (dl.map (cand h0))).length) (fun x hx => by obtain ⟨f, _, rfl⟩ := List.mem_map.mp hx; simp), List.length_map, List.length_cons, List.map_cons, List.sum_cons, Nat.pow_succ, Nat.pow_add]
    have := Nat.mul_le_mul hc ih
    have e : 7 * 2 ^ d.need.toNat * (7 ^ dl.length * 2 ^ (dl.map fun d => d.need.toNat).sum) = 7 ^ dl.length * 7 * (2 ^ d.need.toNat * 2 ^ (dl.map fun d => d.need.toNat).sum) := by
      rw [Nat.mul_comm (7 ^ dl.length) 7, Nat.mul_assoc 7, Nat.mul_assoc 7]
      congr 1
      rw [← Nat.mul_assoc, ← Nat.mul_assoc, Nat.mul_comm (2 ^ d.need.toNat) (7 ^ dl.length)]
    omega
structure FB (h0 : Int) (dl : List Deed) (h : Int) (cs : List Cell) : Prop where
  len : cs.length = dl.length
  hh : h0 ≤ h
  sum : h + leftSum cs (List.range dl.length) = h0 + needSum dl (List.range dl.length)
  cell : ∀ (i : Nat) (x : Cell), cs[i]? = some x → x ∈ cand h0 (dl.getD i dflt)
theorem FB.start {h : Int} {dl : List Deed} : FB h dl h (stC dl []) := by
  refine ⟨stC_len _ _, Int.le_refl _, by rw [stC0_left fun x hx => List.mem_range.mp hx], fun i x e => ?_⟩
  obtain ⟨_, e2⟩ := stC0_at e
  rw [e2]
  exact List.mem_cons_of_mem _ List.mem_cons_self
theorem FB.mem {h0 h : Int} {dl : List Deed} {cs : List Cell} (k : FB h0 dl h cs) : cs ∈ prods (dl.map (cand h0)) :=
  mem_prods (by rw [List.length_map]; exact k.len) fun i x e => by
    have hi : i < dl.length := by rw [← k.len]; exact (List.getElem?_eq_some_iff.mp e).1
    exact ⟨_, by rw [List.getElem?_map, getD_some hi]; rfl, k.cell i x e⟩
theorem cand_in {h0 : Int} {d : Deed} {f : Option Int} {n : Int} (h : (some (f, n) : Cell) ∈ cand h0 d) (hn : 0 ≤ d.need) : (f = d.first ∧ n = d.need) ∨ ∃ y ∈ fsD h0 d, f = some y ∧ 0 ≤ n ∧ n < d.need := by
  unfold cand at h
  rcases List.mem_cons.mp h with e | e
  · cases e
  · rcases List.mem_cons.mp e with e | e
    · cases e; exact .inl ⟨rfl, rfl⟩
    · obtain ⟨l, hl, he⟩ := List.mem_flatten.mp e
      obtain ⟨y, hy, rfl⟩ := List.mem_map.mp hl
      obtain ⟨m, hm, e2⟩ := List.mem_map.mp he
      have := List.mem_range.mp hm
      cases e2
      exact .inr ⟨y, hy, rfl, by omega, by omega⟩
theorem cand_of {h0 y n : Int} {d : Deed} (hy : y ∈ fsD h0 d) (n0 : 0 ≤ n) (hn : n < d.need) : (some (some y, n) : Cell) ∈ cand h0 d := by
  unfold cand
  refine List.mem_cons_of_mem _ (List.mem_cons_of_mem _ (List.mem_flatten.mpr ⟨_, List.mem_map.mpr ⟨y, hy, rfl⟩, List.mem_map.mpr ⟨n.toNat, List.mem_range.mpr (by omega), ?_⟩⟩))
  rw [Int.toNat_of_nonneg n0]
theorem FB.step {b0 b c h0 h h' : Int} {dl : List Deed} {cs cs' : List Cell} (o : Ok b b0 dl) (hS : needSum dl (List.range dl.length) < 12) (k : FB h0 dl h cs) (fi : FI c dl h cs) (m : Mv c (wts dl) h cs h' cs') : FB h0 dl h' cs' := by
  have ndr : (List.range dl.length).Nodup := List.nodup_range
  cases m with
  | @write i f n e n0 hf =>
    have hi : i < cs.length := (List.getElem?_eq_some_iff.mp e).1
    have hid : i < dl.length := by rw [← k.len]; exact hi
    have el : leftAt cs i = n := by unfold leftAt; rw [cellD e]; rfl
    have hs := k.sum
    have hh := k.hh
    have hnn : ∀ x ∈ List.range dl.length, 0 ≤ leftAt cs x := fun x _ => by
      unfold leftAt
      cases q : cs.getD x none with
      | none => exact Int.le_refl 0
      | some p => exact fi.nn x p.1 p.2 (cellS q)
    have hle := (leftSum_nn hnn).2 i (List.mem_range.mpr hid)
    rw [el] at hle
    have hneed := (o.need _ (mem_dl hid)).1
    refine ⟨by rw [List.length_set]; exact k.len, by omega, ?_, fun j x q => ?_⟩
    · rw [leftSum_set hi ndr, if_pos (List.mem_range.mpr hid), el]
      have e3 : leftC (some (some (f.getD h), n - 1)) = n - 1 := rfl
      rw [e3]
      omega
    · rw [List.getElem?_set] at q
      split at q
      · next ej =>
        subst ej
        cases q
        rcases cand_in (k.cell i _ e) hneed with ⟨e1, e2⟩ | ⟨y, hy, e1, e2, e3⟩
        · subst e2
          cases f with
          | none =>
            refine cand_of ?_ (by omega) (by omega)
            unfold fsD
            rw [← e1]
            refine List.mem_map.mpr ⟨(h - h0).toNat, List.mem_range.mpr (by omega), ?_⟩
            show h0 + (((h - h0).toNat : Nat) : Int) = h
            omega
          | some y =>
            refine cand_of ?_ (by omega) (by omega)
            unfold fsD
            rw [← e1]
            exact List.mem_singleton.mpr rfl
        · subst e1
          exact cand_of hy (by omega) (by omega)
      · exact k.cell j x q
  | @go i f e hw =>
    have hi : i < cs.length := (List.getElem?_eq_some_iff.mp e).1
    refine ⟨by rw [List.length_set]; exact k.len, k.hh, ?_, fun j x q => ?_⟩
    · have el : leftAt cs i = 0 := by unfold leftAt; rw [cellD e]; rfl
      have hs := k.sum
      rw [leftSum_set hi ndr, el]
      have e3 : leftC none = 0 := rfl
      rw [e3]
      split <;> omega
    · rw [List.getElem?_set] at q
      split at q
      · cases q
        exact List.mem_cons_self
      · exact k.cell j x q
theorem sum_toNat {b h : Int} {dl : List Deed} (o : Ok b h dl) : (((dl.map fun d => d.need.toNat).sum : Nat) : Int) = needSum dl (List.range dl.length) := by
  have e : needSum dl (List.range dl.length) = (dl.map (·.need)).sum := by
    unfold needSum
    congr 1
    refine List.ext_getElem? fun i => ?_
    rw [List.getElem?_map, List.getElem?_map]
    by_cases hi : i < dl.length
    · rw [List.getElem?_range hi, getD_some hi]
      show some (needAt dl i) = some _
      rw [needAt_getD hi]
    · rw [List.getElem?_eq_none (by simp; omega), List.getElem?_eq_none (by omega)]
      rfl
  rw [e]
  have key : ∀ l : List Deed, (∀ d ∈ l, 0 ≤ d.need) → (((l.map fun d => d.need.toNat).sum : Nat) : Int) = (l.map (·.need)).sum := fun l => by
    induction l with
    | nil => intro _; rfl
    | cons d l ih =>
      intro h
      have h1 := h d List.mem_cons_self
      have h2 := ih fun x hx => h x (List.mem_cons_of_mem _ hx)
      rw [List.map_cons, List.map_cons, List.sum_cons, List.sum_cons, ← h2]
      omega
  exact key dl fun d hd => (o.need d hd).1
theorem subg_len {α : Type} : ∀ {l m : List α}, l.Nodup → (∀ k ∈ l, k ∈ m) → l.length ≤ m.length
  | [], _, _, _ => Nat.zero_le _
  | x :: l, m, nd, h => by
    have nd' := List.nodup_cons.mp nd
    obtain ⟨a, b, rfl⟩ := List.append_of_mem (h x List.mem_cons_self)
    have ih := subg_len (m := a ++ b) nd'.2 fun k hk => by
      rcases List.mem_append.mp (h k (List.mem_cons_of_mem _ hk)) with e | e
      · exact List.mem_append.mpr (.inl e)
      · rcases List.mem_cons.mp e with e | e
        · exact absurd (e ▸ hk) nd'.1
        · exact List.mem_append.mpr (.inr e)
    simp only [List.length_append, List.length_cons] at ih ⊢
    omega
/-- states are few -/
theorem few {b b0 h0 : Int} {dl : List Deed} (o : Ok b b0 dl) (hS : needSum dl (List.range dl.length) < 12) (hn : dl.length < 5) {sts : List (Int × List Cell)} (nd : sts.Nodup) (hb : ∀ p ∈ sts, FB h0 dl p.1 p.2) : sts.length ≤ 4917248 := by
  have hinj : ∀ p ∈ sts, ∀ q ∈ sts, p.2 = q.2 → p = q := fun p hp q hq e => by
    have h1 := (hb p hp).sum
    have h2 := (hb q hq).sum
    rw [e] at h1
    have : p.1 = q.1 := by omega
    exact Prod.ext this e
  have nd2 : (sts.map (·.2)).Nodup := by
    rw [List.Nodup, List.pairwise_map]
    refine List.Pairwise.imp_of_mem (fun {a b} ha hb' hne e => hne (hinj a ha b hb' e)) nd
  have h1 := subg_len nd2 (m := prods (dl.map (cand h0))) fun k hk => by
    obtain ⟨p, hp, rfl⟩ := List.mem_map.mp hk
    exact (hb p hp).mem
  have h2 := prods_len (h0 := h0) (dl := dl)
  have h3 := sum_toNat o
  have h4 : 7 ^ dl.length * 2 ^ ((dl.map fun d => d.need.toNat).sum) ≤ 7 ^ 4 * 2 ^ 11 := Nat.mul_le_mul (Nat.pow_le_pow_right (by decide) (by omega)) (Nat.pow_le_pow_right (by decide) (by omega))
  have h5 : 7 ^ 4 * 2 ^ 11 = 4917248 := by decide
  rw [List.length_map] at h1
  omega
end K06
/-! K15: dicts whose keys are tuples within tuples. -/
namespace K06
open PySem PySem.Spec L2
mutual
/-- data as a key -/
def nkD : D → NestedKey
  | .int i => .num i
  | .tup ds => .tup (nkDs ds)
  | .non => .none
  | .bl _ => .none
  | .str _ => .none
  | .lst _ => .none
  | .std _ _ _ => .none
  | .adr _ => .none
  | .ty _ => .none
  | .obj _ _ _ => .none
def nkDs : List D → List NestedKey
  | [] => []
  | d :: ds => nkD d :: nkDs ds
end
mutual
/-- numbers, None, tuples of such -/
def KD : D → Bool
  | .int _ => true
  | .tup ds => KDs ds
  | .non => true
  | .bl _ => false
  | .str _ => false
  | .lst _ => false
  | .std _ _ _ => false
  | .adr _ => false
  | .ty _ => false
  | .obj _ _ _ => false
def KDs : List D → Bool
  | [] => true
  | d :: ds => KD d && KDs ds
end
structure KK (d : D) : Prop where
  k : KD d = true
  d : (nkD d).depth ≤ 8
section
variable {P : Program} {w : World} {CS : Addr} {H : Hp} {h : Heap} {A : AP1}
mutual
theorem nested_of (ok : HOk P w H h) : ∀ (d : D) (v : V) (u : Value), KD d = true → Rep CS H A d v → RelV v u → NestedIs h (nkD d) u
  | .int i, v, u, _, r, q => by
    have e : v = .int i := r
    subst e
    obtain ⟨t, rfl⟩ := q
    exact .int i t
  | .non, v, u, _, r, q => by
    have e : v = .non := r
    subst e
    have e2 : u = Value.none := q
    subst e2
    exact .none
  | .tup ds, v, u, k, r, q => by
    obtain ⟨a, vs, e, h1, h2⟩ := r
    subst e
    have e2 : u = Value.ref a := q
    subst e2
    obtain ⟨_, its, rv, ob, ho, hc, n, hd⟩ := ok a _ h1
    exact .tup ho hc hd (by simpa using nested_all ok ds vs its k h2 rv)
  | .bl _, _, _, k, _, _ => by cases k
  | .str _, _, _, k, _, _ => by cases k
  | .lst _, _, _, k, _, _ => by cases k
  | .std _ _ _, _, _, k, _, _ => by cases k
  | .adr _, _, _, k, _, _ => by cases k
  | .ty _, _, _, k, _, _ => by cases k
  | .obj _ _ _, _, _, k, _, _ => by cases k
theorem nested_all (ok : HOk P w H h) : ∀ (ds : List D) (vs : List V) (us : List Value), KDs ds = true → Reps CS H A ds vs → Vals vs us → NestedAll h (nkDs ds) us
  | [], vs, us, _, r, q => by
    have e : vs = [] := r
    subst e
    cases q
    exact .nil
  | d :: ds, vs, us, k, r, q => by
    obtain ⟨v, vr, e, r1, r2⟩ := r
    subst e
    have k2 : KD d = true ∧ KDs ds = true := by simpa [KDs] using k
    cases q with
    | cons q1 q2 => exact .cons (nested_of ok d v _ k2.1 r1 q1) (nested_all ok ds vr _ k2.2 r2 q2)
end
end
/-- what is true of the dict at l, its keys' data ks standing at us -/
def KdPhi (P : Program) (w : World) (l : Addr) (ks : List D) (us : List V) (h : Heap) : Prop := (l == sysModules) = false ∧ ∃ (xs : List (NestedKey × Addr × Value)) (o : Obj) (es : Array DictEntry) (ep : Nat),
  h.get? l = some o ∧ o.ExactDict ∧ o.data = .dict es ep ∧ es.toList = xs.map (entryOfKey (nestedKind P w)) ∧ xs.map (·.1) = ks.map nkD ∧ xs.map (fun x => V.ref x.2.1) = us ∧ (xs.map (·.1)).Nodup
section
variable {P : Program} {w : World} {l : Addr} {ks : List D} {us : List V}
theorem kd_stable (h1 h2 : Heap) (p : KdPhi P w l ks us h1) (e : ∀ o, h1.get? l = some o → h2.get? l = some o) : KdPhi P w l ks us h2 := by
  obtain ⟨hs, xs, o, es, ep, g1, r⟩ := p
  exact ⟨hs, xs, o, es, ep, e o g1, r⟩
theorem kd_nc : NC (.ext (KdPhi P w l ks us)) := fun c q z => by
  unfold LamX.CodeO at z
  have z2 : KdPhi P w l ks us = fun h => ∃ (oc : Obj) (vs : Array Value) (t : Tok), h.get? c = some oc ∧ oc.data = .fields vs ∧ vs[1]? = some (.str q t) := by injection z
  let ob : Obj := { cls := .none, data := .fields #[.none, .str q 0] }
  let hp : Heap := { objs := Array.replicate (c + 1) ob }
  have hob : ∀ a : Nat, hp.get? a = if a < c + 1 then some ob else none := fun a => by
    show (match (Array.replicate (c + 1) ob)[a]? with
      | some ⟨_, _, .freed, _⟩ => none
      | o => o) = _
    by_cases q : a < c + 1
    · rw [if_pos q, Array.getElem?_replicate, if_pos q]
    · rw [if_neg q, Array.getElem?_replicate, if_neg q]
  have hc : (fun h : Heap => ∃ (oc : Obj) (vs : Array Value) (t : Tok), h.get? c = some oc ∧ oc.data = .fields vs ∧ vs[1]? = some (.str q t)) hp := ⟨ob, _, 0, by rw [hob, if_pos (Nat.lt_succ_self c)], rfl, rfl⟩
  rw [← z2] at hc
  obtain ⟨_, xs, o, es, ep, g1, _, g3, _⟩ := hc
  rw [hob] at g1
  split at g1
  · cases g1
    cases g3
  · cases g1
theorem kd_ok {H : Hp} {h : Heap} (p : KdPhi P w l ks us h) : ObjOk P w H h l (.ext (KdPhi P w l ks us)) :=
  ⟨p, by obtain ⟨_, _, o, _, _, g, _⟩ := p; exact ⟨o, g⟩, kd_stable⟩
theorem kd_at {H : Hp} {h : Heap} {CS : Addr} {A : AP1} (ok : HOk P w H h) (e : H l = some (.ext (KdPhi P w l ks us))) (hk : ∀ k ∈ ks, KK k) (r : Reps CS H A ks us) :
    (l == sysModules) = false ∧ ∃ xs, h.DictOfH (nestedKind P w) l xs ∧ xs.map (·.1) = ks.map nkD ∧ xs.map (fun x => V.ref x.2.1) = us := by
  obtain ⟨⟨hs, xs, o, es, ep, g1, g2, g3, g4, g5, g6, g7⟩, _, _⟩ := ok l _ e
  refine ⟨hs, xs, ⟨o, es, ep, g1, g2, g3, g4, fun x hx => ?_, g7⟩, g5, g6⟩
  obtain ⟨i, hi⟩ := List.mem_iff_getElem?.mp hx
  have a1 : (ks.map nkD)[i]? = some x.1 := by rw [← g5, List.getElem?_map, hi]; rfl
  have a2 : us[i]? = some (V.ref x.2.1) := by rw [← g6, List.getElem?_map, hi]; rfl
  rw [List.getElem?_map] at a1
  cases q : ks[i]? with
  | none => rw [q] at a1; cases a1
  | some k =>
    rw [q] at a1
    have a3 : nkD k = x.1 := Option.some.inj a1
    obtain ⟨v, b1, b2⟩ := Reps.get r q
    rw [a2] at b1
    cases b1
    have kk := hk k (List.mem_of_getElem? q)
    refine ⟨?_, by rw [← a3]; exact kk.d⟩
    rw [← a3]
    exact nested_of ok k _ _ kk.k b2 rfl
theorem atKey_some (xs : List (NestedKey × Addr × Value)) (k : NestedKey) : (atKey xs k).isSome = decide (k ∈ xs.map (·.1)) := by
  induction xs with
  | nil => rfl
  | cons x xs ih =>
    by_cases h : x.1 = k
    · simp [atKey, h]
    · have h2 : ¬ k = x.1 := fun z => h z.symm
      simp only [List.map_cons, List.mem_cons, h2, false_or]
      rw [← ih]
      simp [atKey, h]
end
/-- y not in d -/
def tKNotIn (P : Program) (w : World) (ty td : TE) : TE := fun σ H Q => ty σ H fun y H1 => td σ H1 fun x H2 => ∃ (CS : Addr) (A : AP1) (l : Addr) (ks : List D) (us : List V) (d : D) (b : Addr),
  x = .ref l ∧ y = .ref b ∧ H2 l = some (.ext (KdPhi P w l ks us)) ∧ (∀ k ∈ ks, KK k) ∧ Reps CS H2 A ks us ∧ KK d ∧ Rep CS H2 A d y ∧ Q (.bl (!decide (nkD d ∈ ks.map nkD))) H2
/-- d[y] = v -/
def sKPut (P : Program) (w : World) (td ty tv : TE) : TS := fun De σ H => tv σ H fun v H1 => td σ H1 fun x H2 => ty σ H2 fun y H3 => ∃ (CS : Addr) (A : AP1) (l : Addr) (ks : List D) (us : List V) (d : D) (b : Addr),
  x = .ref l ∧ y = .ref b ∧ H3 l = some (.ext (KdPhi P w l ks us)) ∧ (∀ k ∈ ks, KK k) ∧ Reps CS H3 A ks us ∧ KK d ∧ Rep CS H3 A d y ∧ nkD d ∉ ks.map nkD ∧ ks.length < sizeLine ∧ De.nx σ (upd H3 l (.ext (KdPhi P w l (ks ++ [d]) (us ++ [y]))))
/-- {k: v} -/
def tKDisp (P : Program) (w : World) (tk tv : TE) : TE := fun σ H Q => ∀ p, H p = none → tk σ (upd H p (.ext (KdPhi P w p [] []))) fun y H1 => tv σ H1 fun v H2 => ∃ (CS : Addr) (A : AP1) (d : D) (b : Addr),
  y = .ref b ∧ H2 p = some (.ext (KdPhi P w p [] [])) ∧ KK d ∧ Rep CS H2 A d y ∧ Q (.ref p) (upd H2 p (.ext (KdPhi P w p [d] [y])))
section
variable {X : Cx} {o i e value : Expr} {pos pos' tpos : Pos} {td ty tv tk : TE}
theorem nroom (hu : X.A.units + 9 < cLine) : (nestedKind X.prog X.w).room X.A.in1 := by
  show X.A.units + 1 + 8 < cLine
  omega
theorem pc_knotin (hu : X.A.units + 9 < cLine) (hi : PE X i ty) (ho : PE X o td) : PC X .NotIn i o (tKNotIn X.prog X.w ty td) := by
  refine ⟨fun pins s σ H Q I h => ?_⟩
  refine thn (hi.run pins s σ H _ I h) fun iv s1 ⟨y, H1, I1, ry, q1⟩ => thn (ho.run pins s1 σ H1 _ I1 q1) fun u s2 ⟨x, H2, I2, rx, CS, A, l, ks, us, d, b, ex, ey, e, hk, r, kd, rd, q2⟩ => ?_
  subst ex
  obtain rfl : u = Value.ref l := rx
  have ry' := ry
  rw [ey] at ry'
  obtain rfl : iv = Value.ref b := ry'
  obtain ⟨hs, xs, dd, e1, e2⟩ := kd_at I2.hok e hk r
  have hn : NestedIs s2.heap (nkD d) (.ref b) := nested_of I2.hok d y _ kd.k rd ry
  refine PyProof.Rows.wpAny_notIn_heap (nroom hu) ⟨hn, kd.d⟩ hs dd ?_
  rw [atKey_some, e1]
  exact ⟨.bl (!decide (nkD d ∈ ks.map nkD)), H2, I2.tok _, rfl, q2⟩
theorem ps_kput (hu : X.A.units + 9 < cLine) (ho : PE X o td) (hi : PE X i ty) (hv : PE X value tv) (hs : swapsWith value (some (.Subscript o i pos')) pos.line X.env = pure false) :
    PS X (.Assign [.Subscript o i pos'] value pos) (sKPut X.prog X.w td ty tv) := by
  refine ⟨fun pins s σ H D I h => ?_⟩
  refine wpAny_Assign_Subscript (thn (hv.run pins s σ H _ I h) fun r s1 ⟨v, H1, I1, rv, q1⟩ => thn (ho.run pins s1 σ H1 _ I1 q1) fun u s2 ⟨x, H2, I2, rx, q2⟩ => thn (hi.run pins s2 σ H2 _ I2 q2) fun iv s3 ⟨y, H3, I3, ry, CS, A, l, ks, us, d, b, ex, ey, e, hk, rr, kd, rd, nin, hz, q3⟩ => ?_) hs
  subst ex
  obtain rfl : u = Value.ref l := rx
  have ry' := ry
  rw [ey] at ry'
  obtain rfl : iv = Value.ref b := ry'
  obtain ⟨hsm, xs, dd, e1, e2⟩ := kd_at I3.hok e hk rr
  have hn : NestedIs s3.heap (nkD d) (.ref b) := nested_of I3.hok d y _ kd.k rd ry
  have hl : xs.length = ks.length := by
    have := congrArg List.length e1
    simpa using this
  refine wpAny_setItem_heap (hsz := by omega) (nroom hu) ⟨hn, kd.d⟩ dd fun h' dd' hsb => ?_
  have hnew : atKey xs (nkD d) = none := by
    have := atKey_some xs (nkD d)
    rw [e1, decide_eq_false nin] at this
    cases z : atKey xs (nkD d) with
    | none => rfl
    | some p => rw [z] at this; cases this
  rw [storedH_new hnew] at dd'
  obtain ⟨ob, es, ep, hq, h2, h3, h4, _, h5⟩ := dd'
  have hphi : KdPhi X.prog X.w l (ks ++ [d]) (us ++ [y]) h' := by
    refine ⟨hsm, xs ++ [(nkD d, b, r)], ob, es, ep, hq, h2, h3, h4, ?_, ?_, h5⟩
    · rw [List.map_append, List.map_append, e1]; rfl
    · rw [List.map_append, e2, ey]; rfl
  exact ⟨σ, _, d_write I3 (by rw [e]; exact True.intro) hsb ⟨ob, hq⟩ (kd_ok hphi), q3⟩
theorem pe_kdisp {k v : Expr} (hu : X.A.units + 9 < cLine) (hk : PE X k tk) (hv : PE X v tv) : PE X (.Dict [some k] [v] pos) (tKDisp X.prog X.w tk tv) := by
  refine ⟨fun pins s σ H Q I q => ?_⟩
  have hnf := I.hok.fresh (Nat.le_refl s.heap.objs.size)
  have hsm : (s.heap.objs.size == sysModules) = false := beq_eq_false_iff_ne.mpr (Ne.symm (Nat.ne_of_lt I.big))
  have h0 : KdPhi X.prog X.w s.heap.objs.size [] [] (s.heap.push { cls := .type "dict", data := .dict #[] }) :=
    ⟨hsm, [], _, #[], 0, Heap.get?_push_size _ rfl, ⟨rfl, rfl, rfl⟩, rfl, rfl, rfl, rfl, List.nodup_nil⟩
  have I1 := I.laid (a := s.heap.objs.size) (o := .ext (KdPhi X.prog X.w s.heap.objs.size [] [])) (h' := s.heap.push { cls := .type "dict", data := .dict #[] }) (t' := s.toks) (fun _ _ q => Heap.get?_push_of_some _ q) (Nat.le_refl _) (kd_ok h0)
  have hroom : (nestedKind X.prog X.w).room X.A := by
    show X.A.units + 8 < cLine
    omega
  rw [arm_eval_Dict, zip_pairTrees [some k] [v] X.env pos rfl rfl, dictDisplay_pairs (pairTrees [some k] [v] X.env pos) (by simp [pairTrees]) (by simp [pairTrees])]
  refine wpAny_bind (wpAny_standAt (wpAny_bind (wpAny_subDictH (knd := nestedKind X.prog X.w) (Q := fun d s' => wpAny (model X.prog X.w) X.A (pure (Value.ref d)) (EP X pins σ Q) X.xe s') hroom (by simp [pairTrees]) ?_)))
  refine pairTrees_cons_walk (thn (hk.run pins _ σ _ _ I1 (q _ hnf)) fun u s1 ⟨y, H1, I1, ry, q1⟩ => thn (hv.run pins s1 σ H1 _ I1 q1) fun w2 s2 ⟨v', H2, I2, rv, CS, A, d, b, ey, e, kd, rd, q2⟩ => pairTrees_nil_walk ?_)
  have ry' := ry
  rw [ey] at ry'
  obtain rfl : u = Value.ref b := ry'
  obtain ⟨_, xs, dd, e1, e2⟩ := kd_at (CS := CS) (A := A) I2.hok e (fun _ h => by cases h) rfl
  have hx : xs = [] := List.map_eq_nil_iff.mp e1
  subst hx
  have hn : NestedIs s2.heap (nkD d) (.ref b) := nested_of I2.hok d y _ kd.k rd ry
  refine ⟨[(nkD d, b, w2)], ⟨rfl, rfl, ⟨hn, kd.d⟩, trivial⟩, dd, fun h' tk' dd' hsb => wpAny_pure ?_⟩
  have em : storedAllH ([] : List (NestedKey × Addr × Value)) [(nkD d, b, w2)] = [(nkD d, b, w2)] := rfl
  rw [em] at dd'
  obtain ⟨ob, es, ep, hq, h2, h3, h4, _, h5⟩ := dd'
  have hphi : KdPhi X.prog X.w s.heap.objs.size [d] [y] h' := ⟨hsm, [(nkD d, b, w2)], ob, es, ep, hq, h2, h3, h4, rfl, by rw [ey]; rfl, h5⟩
  exact ⟨.ref s.heap.objs.size, _, d_write I2 (by rw [e]; exact True.intro) hsb ⟨ob, hq⟩ (kd_ok hphi), rfl, q2⟩
end
section
variable {X : Cx} {CS : Addr} {sc : Scope} {N : List Str} {vs ls : List Nat} {gs : List Str} {a b e : Expr} {rest : List Stmt} {P' : Post} {δ δ1 δ2 : Sto} {x y : D} {ks : List D} {nm : Str} {l : Addr} {pos p2 p3 p' : Pos}
theorem hu9 {k : Nat} (hr : Room k X.A) : X.A.units + 9 < cLine := by
  have := hr.units
  omega
/-- data that may be a key stands at a tuple -/
theorem kk_ref {ds : List D} {H : Hp} {A : AP1} {v : V} (h : Rep CS H A (.tup ds) v) : ∃ b, v = .ref b := by
  obtain ⟨a, vs, e, _⟩ := h
  exact ⟨a, e⟩
/-- x not in known -/
theorem xt_knotin {ds : List D} (hr : Room k X.A) (C : Ctx X sc N vs ls gs) (i : Nat) (hi : N[i]? = some nm) (hv : vs.contains i = true) (ha : XE X CS a δ (.d (.tup ds)) δ1) (hs1 : δ1[i]? = some (some (.ex l ks (KdPhi X.prog X.w l ks)))) (hk : ∀ k ∈ ks, KK k) (kd : KK (.tup ds)) :
    XT X CS (.Compare a [.NotIn] [.Name nm p2] pos) δ (!decide (nkD (.tup ds) ∈ ks.map nkD)) δ1 :=
  pt_weak (pt_cmp (pc_knotin (hu9 hr) ha (xe_m (CS := CS) C i hi hv hs1 rfl)) rfl) fun σ H Q ⟨A, B, s, k⟩ => ⟨A, B, s, fun v H1 e1 s1 q1 => ⟨A, B, s1, fun u H2 e2 s2 q2 => by
    have e3 : u = .ref l := q2
    subst e3
    obtain ⟨v', f1, f2, fA, lf, us, f3, fn, f4⟩ := s2.sl i _ hs1
    have rv : Rep CS H2 (Un2 A B) (.tup ds) v := e2.rep q1
    obtain ⟨b, eb⟩ := kk_ref rv
    exact ⟨CS, Un2 A B, l, ks, us, .tup ds, b, rfl, eb, f3, hk, f4, kd, rv, _, rfl, k H2 (e1.trans e2) s2⟩⟩⟩
/-- known[x] = y -/
theorem xss_kput {ds : List D} (hr : Room k X.A) (C : Ctx X sc N vs ls gs) (i : Nat) (hi : N[i]? = some nm) (hv : vs.contains i = true) (he : XE X CS e δ (.d y) δ) (hx : XE X CS a δ (.d (.tup ds)) δ) (hs1 : δ[i]? = some (some (.ex l ks (KdPhi X.prog X.w l ks)))) (hk : ∀ k ∈ ks, KK k) (kd : KK (.tup ds)) (f : LF (.tup ds) = true) (hn : nkD (.tup ds) ∉ ks.map nkD) (hz : ks.length < sizeLine)
    (h2 : XSs X CS rest (δ.set i (some (.ex l (ks ++ [.tup ds]) (KdPhi X.prog X.w l (ks ++ [.tup ds]))))) P') (hs : swapsWith e (some (.Subscript (.Name nm p2) a p3)) pos.line X.env = pure false := by rfl) :
    XSs X CS (.Assign [.Subscript (.Name nm p2) a p3] e pos :: rest) δ P' :=
  pss_weak (pss_cons (ps_kput (hu9 hr) (xe_m (CS := CS) C i hi hv hs1 rfl) hx he hs) h2) fun De σ H ⟨A, B, s, kk⟩ => ⟨A, B, s, fun v H1 e1 s1 q1 => ⟨A, B, s1, fun u H2 e2 s2 q2 => ⟨A, B, s2, fun w H3 e3 s3 q3 => by
    have e4 : u = .ref l := q2
    subst e4
    obtain ⟨v', f1, f2, fA, lf, us, f3, fn, f4⟩ := s3.sl i _ hs1
    have rw' : Rep CS H3 (Un2 A B) (.tup ds) w := q3
    obtain ⟨b, eb⟩ := kk_ref rw'
    refine ⟨CS, Un2 A B, l, ks, us, .tup ds, b, rfl, eb, f3, hk, f4, kd, rw', hn, hz, ?_⟩
    have gA : A l := fA
    have hml : Mut (H3 l) := by rw [f3]; trivial
    have st : Stay (Un2 A B) H3 (upd H3 l (.ext (KdPhi X.prog X.w l (ks ++ [.tup ds]) (us ++ [w])))) := stay_upd (.inl (.inl gA)) hml
    have x1 : Ext A B H3 A (upd H3 l (.ext (KdPhi X.prog X.w l (ks ++ [.tup ds]) (us ++ [w])))) := Ext.upd (.inl gA) hml
    have x2 : SR CS A B σ (upd H3 l (.ext (KdPhi X.prog X.w l (ks ++ [.tup ds]) (us ++ [w])))) (δ.set i (some (.ex l (ks ++ [.tup ds]) (KdPhi X.prog X.w l (ks ++ [.tup ds]))))) :=
      s3.write (s' := .ex l (ks ++ [.tup ds]) (KdPhi X.prog X.w l (ks ++ [.tup ds]))) (o := .ext (KdPhi X.prog X.w l (ks ++ [.tup ds]) (us ++ [w]))) (l := l) hs1 rfl rfl f1 (.inl (.inl gA)) trivial
        ⟨f2, gA, by rw [LFs_app, lf]; simpa [LFs] using f, us ++ [w], upd_same, kd_nc, (Reps.stay st _ _ f4).app (Reps.one (Rep.stay st _ _ rw'))⟩ kd_nc
    exact tS_step (P := P') (((e1.trans e2).trans e3).trans x1) x2 kk⟩⟩⟩
/-- name = {x: y} -/
theorem xss_setK {ds : List D} (hr : Room k X.A) (C : Ctx X sc N vs ls gs) (i : Nat) (hi : N[i]? = some nm) (hl : ls.contains i = true) (ha : XE X CS a δ (.d (.tup ds)) δ) (hb : XE X CS b δ (.d y) δ) (kd : KK (.tup ds)) (f : LF (.tup ds) = true) (hlen : i < δ.length)
    (h2 : ∀ l, XSs X CS rest (δ.set i (some (.ex l [.tup ds] (KdPhi X.prog X.w l [.tup ds])))) P') (hs : swapsWith (.Dict [some a] [b] p3) (some (.Name nm p')) pos.line X.env = pure false := by rfl) :
    XSs X CS (.Assign [.Name nm p'] (.Dict [some a] [b] p3) pos :: rest) δ P' := by
  obtain ⟨l1, l2⟩ := C.loc i nm hl hi
  exact pss_weak (pss_cons (ps_set (i := i) (by rw [C.hN]; exact C.nd) (by rw [C.hN]; exact hi) l1 (pe_kdisp (hu9 hr) ha hb) hs l2) (pss_ex (ι := Addr) (p := fun _ => True) fun l _ => h2 l)) fun De σ H ⟨A, B, s, kk⟩ => fun p hp => by
    have sm : Same H (upd H p (.ext (KdPhi X.prog X.w p [] []))) := same_new hp
    have np : ¬ Mu A (B.with p) p := fun z => s.tracked (.inl z) hp
    refine ⟨A, B.with p, s.guard hp trivial kd_nc, fun w1 H1 e1 s1 q1 => ⟨A, B.with p, s1, fun w2 H2 e2 s2 q2 => ?_⟩⟩
    have hp1 := e1.out' p _ np (.inr (by intro _ z; cases z)) upd_same
    have hp2 := e2.out' p _ np (.inr (by intro _ z; cases z)) hp1
    have rv : Rep CS H2 (Un2 A (B.with p)) (.tup ds) w1 := e2.rep q1
    obtain ⟨b, eb⟩ := kk_ref rv
    refine ⟨CS, Un2 A (B.with p), .tup ds, b, eb, hp2, kd, rv, p, trivial, ?_⟩
    have s3 := s2.updZ (o := .ext (KdPhi X.prog X.w p [.tup ds] [w1])) (Dl := p) (.inr rfl) np trivial kd_nc
    have E2 : Ext A B H A H2 := (Same.ext sm).trans (e1.unguard.trans e2.unguard)
    have E3 : Ext A B H A (upd H2 p (.ext (KdPhi X.prog X.w p [.tup ds] [w1]))) := E2.updN hp
    have st : Stay (Un2 A (B.with p)) H2 (upd H2 p (.ext (KdPhi X.prog X.w p [.tup ds] [w1]))) := stay_upd (.inr (.inr rfl)) (by rw [hp2]; trivial)
    obtain ⟨x1, x2⟩ := SR.bind (t := .ex p [.tup ds] (KdPhi X.prog X.w p [.tup ds])) s s3.unguard E3 Cng.refl hp (by rw [upd_same]; trivial) hlen rfl
      ⟨rfl, .inr rfl, by simpa [LFs] using f, [w1], upd_same, kd_nc, Reps.one (Rep.lf _ _ f (Rep.stay st _ _ rv))⟩
    exact tS_step (P := P') x1 x2 kk
end
end K06
/-! D19: the law's moves. -/
namespace K06
open PySem PySem.Spec L2
variable {P : Program} {w : World} {K : PySem.W.Frag} {mg : Str → Option Value} {base : Heap} {CS : Addr} {X : Cx}
def stP (p : Int × List Cell) : D := stD p.1 p.2
theorem lf_stP (p : Int × List Cell) : LF (stP p) = true := lf_st _ _
theorem lf_stPs (l : List (Int × List Cell)) : LFs (l.map stP) = true := LFs_map lf_stP l
inductive R_L_moves : List D → D → Prop
  | mk {b c h0 h : Int} {dl : List Deed} {cs : List Cell} : Ok b h0 dl → cs.length = dl.length → R_L_moves [.int c, .lst (encW (wts dl)), stD h cs] (.lst ((mvF c (wts dl) h cs cs.length).map stP))
theorem gone_map {dl : List Deed} {cs : List Cell} {i : Nat} (hi : i < dl.length) : (List.range (natsD (dl.getD i dflt).waits).length).filterMap (fun m => some (D.bl (cs.getD ((dl.getD i dflt).waits.getD m 0) none).isNone)) = ((dl.getD i dflt).waits.map fun o => (cs.getD o none).isNone).map D.bl := by
  rw [natsD_len, fm_some, List.map_map]
  exact range_get _ _ _ fun m x hx => by rw [List.getD_eq_getElem?_getD (l := (dl.getD i dflt).waits), hx]; rfl
theorem gone_all {dl : List Deed} {cs : List Cell} {i : Nat} (hi : i < dl.length) : (((dl.getD i dflt).waits.map fun o => (cs.getD o none).isNone).all id) = decide (∀ o ∈ (wts dl).getD i [], cs.getD o none = none) := by
  rw [wts_getD hi, List.all_map]
  by_cases q : ∀ o ∈ (dl.getD i dflt).waits, cs.getD o none = none
  · rw [decide_eq_true q, List.all_eq_true]
    intro o ho
    show (cs.getD o none).isNone = true
    rw [q o ho]
    rfl
  · rw [decide_eq_false q, Bool.eq_false_iff]
    intro z
    refine q fun o ho => ?_
    have := List.all_eq_true.mp z o ho
    exact Option.isNone_iff_eq_none.mp this
theorem isNon_c (c : Cell) : (encC c).isNon = c.isNone := by
  cases c with
  | none => rfl
  | some p => rfl
abbrev S_mv (c h : Int) (dl : List Deed) (cs : List Cell) (lf : Addr) (acc : List (Int × List Cell)) (x6 x7 x8 x9 x10 : Option Slot) : Sto := [some (.im (.int c)), some (.im (.lst (encW (wts dl)))), some (.im (stD h cs)), some (.im (.int h)), some (.im (.tup (encCs cs))), some (.ml lf (acc.map stP)), x6, x7, x8, x9, x10, none, none]
theorem S_mv_app (c h : Int) (dl : List Deed) (cs : List Cell) (lf : Addr) (acc : List (Int × List Cell)) (p : Int × List Cell) (x6 x7 x8 x9 x10 : Option Slot) : S_mv c h dl cs lf (acc ++ [p]) x6 x7 x8 x9 x10 = [some (.im (.int c)), some (.im (.lst (encW (wts dl)))), some (.im (stD h cs)), some (.im (.int h)), some (.im (.tup (encCs cs))), some (.ml lf (acc.map stP ++ [stP p])), x6, x7, x8, x9, x10, none, none] := by
  unfold S_mv
  rw [List.map_append]
  rfl
theorem b_L_moves (C : Ctx X (defScope s_L_moves) N_L_moves V_L_moves V_L_moves G_L_moves) (hr : Room 0 X.A) {ds : List D} {r : D} (hR : R_L_moves ds r) :
    XSs X CS (defBody s_L_moves) (startD N_L_moves (ds.map Slot.im)) (Pr r) := by
  cases hR with
  | @mk b c h0 h dl cs o hl =>
    have hlen := o.len
    refine xss_asg (xe_v C 2 rfl rfl rfl) (xg_t C (xgs_cons (xg_n C 3 rfl rfl (lt_of rfl)) (xgs_cons (xg_n C 4 rfl rfl (lt_of rfl)) xgs_nil)) rfl) ?_
    refine xss_setL C 5 rfl rfl (xe_lst (ds := []) xa_nil (le_of rfl) rfl) rfl (fun lf => ?_) (lt_of rfl)
    refine xss_for C (xi_et C 0 rfl (xe_v C 4 rfl rfl rfl) rfl) (fun i δ => ∃ x6 x7 x8 x9 x10, δ = S_mv c h dl cs lf (mvF c (wts dl) h cs i) x6 x7 x8 x9 x10) _ ⟨none, none, none, none, none, rfl⟩ (fun i d δ hd hI => ?_) (fun δ z => z) (fun δ hI => ?_)
    · obtain ⟨x6, x7, x8, x9, x10, rfl⟩ := hI
      obtain ⟨d', hd', rfl⟩ := enumD_of hd
      obtain ⟨ci, hc, rfl⟩ := encCs_of hd'
      have hi : i < dl.length := by rw [← hl]; exact (List.getElem?_eq_some_iff.mp hc).1
      have hml : ∀ k, (List.map stP (mvF c (wts dl) h cs k)).length ≤ k := fun k => by rw [List.length_map]; exact mvF_len _ _ _ _ _
      have hmi := hml i
      have hmv : mvF c (wts dl) h cs (i + 1) = mvF c (wts dl) h cs i ++ mvAt c (wts dl) h cs i := rfl
      refine ⟨_, _, (xg_t C (xgs_cons (xg_n C 6 rfl rfl (lt_of rfl)) (xgs_cons (xg_n C 7 rfl rfl (lt_of rfl)) xgs_nil)) rfl), ?_⟩
      cases ci with
      | none =>
        have e0 : mvAt c (wts dl) h cs i = [] := by unfold mvAt; rw [cellD hc]
        rw [e0, List.append_nil] at hmv
        refine xss_if0 (xw (xw_and (xt_f (xt_notN (xe_v C 7 rfl rfl rfl)) rfl) (by intro z; cases z) (fun _ => ⟨rfl, rfl⟩))) (by intro z; cases z) (fun _ => ?_)
        refine xss_if0 (xw (xw_and (xt_f (xt_notN (xe_v C 7 rfl rfl rfl)) rfl) (by intro z; cases z) (fun _ => ⟨rfl, rfl⟩))) (by intro z; cases z) (fun _ => ?_)
        exact xss_nil ⟨_, _, x8, x9, x10, by rw [hmv]; rfl⟩
      | some p =>
        obtain ⟨f, n⟩ := p
        by_cases n0 : 0 < n
        · have e0 : mvAt c (wts dl) h cs i = if ∀ y ∈ fsC (cs.set i (some (some (f.getD h), n - 1))), h + 1 - y ≤ c then [(h + 1, cs.set i (some (some (f.getD h), n - 1)))] else [] := by unfold mvAt; rw [cellD hc]; exact if_pos n0
          refine xss_if (Mid := fun δ' => ∃ y8 y9 y10, δ' = S_mv c h dl cs lf (mvF c (wts dl) h cs (i + 1)) (some (.im (.int (i : Nat)))) (some (.im (encC (some (f, n))))) y8 y9 y10) (xw (xw_and (xt_t (xt_notN (xe_v C 7 rfl rfl rfl)) rfl) (fun _ => (xw_and1 (xt_t (xt_gt (xe_ixT (xe_v C 7 rfl rfl rfl) xe_int rfl rfl) xe_int) (decide_eq_true n0)))) (by intro z; cases z))) (fun _ => ?_) (by intro z; cases z) (fun δ' hδ => ?_)
          · refine xss_set (x := encC (some (some (f.getD h), n - 1))) C 8 rfl rfl (xe_tup (ds := [.int (f.getD h), .int (n - 1)]) (xa_cons (xe_if (xt_isN (xe_ixT (xe_v C 7 rfl rfl rfl) xe_int rfl rfl)) (fun hq => (xe_to (xe_v C 3 rfl rfl rfl) (by cases f with | none => rfl | some f => cases hq))) (fun hq => (xe_to (xe_ixT (xe_v C 7 rfl rfl rfl) xe_int rfl rfl) (by cases f with | none => cases hq | some f => rfl)))) (xa_cons (xe_sub (xe_ixT (xe_v C 7 rfl rfl rfl) xe_int rfl rfl) xe_int) xa_nil)) (le_of rfl)) ?_ (lt_of rfl)
            refine xss_set (x := .tup (encCs (cs.set i (some (some (f.getD h), n - 1))))) C 9 rfl rfl (xe_to (xe_catT (xe_catT (xe_slT (xe_v C 4 rfl rfl rfl) xo_none (xo_some (xe_v C 6 rfl rfl rfl)) rfl) (xe_tup (ds := [_]) (xa_cons (xe_v C 8 rfl rfl rfl) xa_nil) (le_of rfl)) rfl rfl (cut_l1 (by omega) _ _ _)) (xe_slT (xe_v C 4 rfl rfl rfl) (xo_some (xe_add (xe_v C 6 rfl rfl rfl) xe_int)) xo_none rfl) rfl rfl (cut_l2 (by omega) _ _ _ _ _)) (congrArg D.tup (set_cut (c := some (some (f.getD h), n - 1)) (by omega)))) ?_ (lt_of rfl)
            have hl' : (cs.set i (some (some (f.getD h), n - 1))).length = dl.length := by rw [List.length_set, hl]
            have hmem : f.getD h ∈ fsC (cs.set i (some (some (f.getD h), n - 1))) := mem_fsC.mpr ⟨i, n - 1, by rw [List.getElem?_set, if_pos rfl, if_pos (by omega)]⟩
            generalize cs.set i (some (some (f.getD h), n - 1)) = cs' at e0 hl' hmem ⊢
            refine xss_setLcP (own := [("_law_one", 11)]) (fun i => ((cs'.getD i none).bind (·.1)).map D.int) C 10 rfl rfl (by decide +kernel) [11] [11] [] (xi_t (xe_v C 9 rfl rfl rfl) rfl) (by decide +kernel) (by decide +kernel) (lf_cs cs') (by rw [encCs_len]; omega) (fun i d hd => ?_) (fsC_map cs') rfl rfl (by decide +kernel) (lt_of rfl) ?_
            · obtain ⟨c', e, rfl⟩ := encCs_of hd
              have e2 : cs'.getD i none = c' := by rw [List.getD_eq_getElem?_getD, e]; rfl
              cases c' with
              | none =>
                exact ⟨_, _, false, rfl, fun Y hB D => (xg_n D 11 rfl rfl (lt_of rfl)), fun Y hB D => (xts_one (xw (xw_and (xt_f (xt_notN (xe_v D 11 rfl rfl rfl)) rfl) (by intro z; cases z) (fun _ => ⟨rfl, rfl⟩)))), (by intro z; cases z), fun _ => by rw [e2]; rfl, rfl⟩
              | some fn =>
                obtain ⟨f1, n1⟩ := fn
                refine ⟨_, _, (!(optD f1).isNon), rfl, fun Y hB D => (xg_n D 11 rfl rfl (lt_of rfl)), fun Y hB D => (xts_one (xw (xw_and (xt_t (xt_notN (xe_v D 11 rfl rfl rfl)) rfl) (fun _ => (xw_and1 (xt_notN (xe_ixT (xe_v D 11 rfl rfl rfl) xe_int rfl rfl)))) (by intro z; cases z)))), fun hb => ⟨optD f1, ?_, fun Y hB D => (xe_ixT (xe_v D 11 rfl rfl rfl) xe_int rfl rfl), lf_optD _⟩, fun hb => ?_, rfl⟩
                · rw [e2]
                  cases f1 with
                  | none => cases hb
                  | some f => rfl
                · rw [e2]
                  cases f1 with
                  | none => rfl
                  | some f => cases hb
            · obtain ⟨m, m1, m2⟩ := min_ex (ns := fsC cs') (by intro z; rw [z] at hmem; cases hmem)
              by_cases hle : h + 1 - m ≤ c
              · have hall : ∀ y ∈ fsC cs', h + 1 - y ≤ c := fun y hy => by have := m2 y hy; omega
                rw [if_pos hall] at e0
                rw [e0] at hmv
                refine xss_if (Mid := fun δ' => ∃ y8 y9 y10, δ' = S_mv c h dl cs lf (mvF c (wts dl) h cs (i + 1)) (some (.im (.int (i : Nat)))) (some (.im (encC (some (f, n))))) y8 y9 y10) (xt_t (xt_le (xe_sub (xe_add (xe_v C 3 rfl rfl rfl) xe_int) (xe_min C 1 rfl (xe_v C 10 rfl rfl rfl) rfl m1 m2)) (xe_v C 0 rfl rfl rfl)) (decide_eq_true hle)) (fun _ => ?_) (by intro z; cases z) (fun δ' hδ => xss_nil hδ)
                refine xss_app C 5 rfl rfl rfl (xe_tup (ds := [_, _]) (xa_cons (xe_add (xe_v C 3 rfl rfl rfl) xe_int) (xa_cons (xe_v C 9 rfl rfl rfl) xa_nil)) (le_of rfl)) rfl (lf_stP (h + 1, cs')) (by omega) ?_
                refine xss_nil ⟨_, _, _, by rw [hmv, S_mv_app]; rfl⟩
              · have hall : ¬ ∀ y ∈ fsC cs', h + 1 - y ≤ c := fun z => hle (z m m1)
                rw [if_neg hall] at e0
                rw [e0, List.append_nil] at hmv
                refine xss_if (Mid := fun δ' => ∃ y8 y9 y10, δ' = S_mv c h dl cs lf (mvF c (wts dl) h cs (i + 1)) (some (.im (.int (i : Nat)))) (some (.im (encC (some (f, n))))) y8 y9 y10) (xt_f (xt_le (xe_sub (xe_add (xe_v C 3 rfl rfl rfl) xe_int) (xe_min C 1 rfl (xe_v C 10 rfl rfl rfl) rfl m1 m2)) (xe_v C 0 rfl rfl rfl)) (decide_eq_false hle)) (by intro z; cases z) (fun _ => ?_) (fun δ' hδ => xss_nil hδ)
                exact xss_nil ⟨_, _, _, by rw [hmv]; rfl⟩
          · obtain ⟨y8, y9, y10, rfl⟩ := hδ
            refine xss_if0 (xw (xw_and (xt_t (xt_notN (xe_v C 7 rfl rfl rfl)) rfl) (fun _ => (xw_and (xt_f (xt_eq (xe_ixT (xe_v C 7 rfl rfl rfl) xe_int rfl rfl) xe_int opd_eqI) (decide_eq_false (by omega))) (by intro z; cases z) (fun _ => ⟨rfl, rfl⟩))) (by intro z; cases z))) (by intro z; cases z) (fun _ => ?_)
            exact xss_nil ⟨_, _, _, _, _, rfl⟩
        · refine xss_if0 (xw (xw_and (xt_t (xt_notN (xe_v C 7 rfl rfl rfl)) rfl) (fun _ => (xw_and1 (xt_f (xt_gt (xe_ixT (xe_v C 7 rfl rfl rfl) xe_int rfl rfl) xe_int) (decide_eq_false n0)))) (by intro z; cases z))) (by intro z; cases z) (fun _ => ?_)
          have e0 : mvAt c (wts dl) h cs i = if n = 0 ∧ ∀ o ∈ (wts dl).getD i [], cs.getD o none = none then [(h, cs.set i none)] else [] := by unfold mvAt; rw [cellD hc]; exact if_neg n0
          by_cases nz : n = 0
          · subst nz
            have hwl := (o.wt _ _ (getD_some hi))
            have hwlen : (dl.getD i dflt).waits.length ≤ 30 := by
              have := nodup_len (n := dl.length) (up_nodup hwl.up) hwl.lt
              omega
            have hgw : (encW (wts dl))[i]? = some (.tup (natsD (dl.getD i dflt).waits)) := encW_get (wts_get (getD_some hi))
            by_cases hg : ∀ o ∈ (wts dl).getD i [], cs.getD o none = none
            · rw [if_pos ⟨rfl, hg⟩] at e0
              rw [e0] at hmv
              refine xss_if (Mid := fun δ' => ∃ y8 y9 y10, δ' = S_mv c h dl cs lf (mvF c (wts dl) h cs (i + 1)) (some (.im (.int (i : Nat)))) (some (.im (encC (some (f, 0))))) y8 y9 y10) (xw (xw_and (xt_t (xt_notN (xe_v C 7 rfl rfl rfl)) rfl) (fun _ => (xw_and (xt_t (xt_eq (xe_ixT (xe_v C 7 rfl rfl rfl) xe_int rfl rfl) xe_int opd_eqI) rfl) (fun _ => (xw_and1 (xt_t (xt_v (xe_all (ns := (dl.getD i dflt).waits.map fun o => (cs.getD o none).isNone) C 2 rfl (xe_lcP (own := [("_law_other", 12)]) (fun m => some (D.bl (cs.getD ((dl.getD i dflt).waits.getD m 0) none).isNone)) C [4, 12] [12] [] (xi_t (xe_ixL (xe_v C 1 rfl rfl rfl) (xe_v C 6 rfl rfl rfl) rfl (atI_of hgw)) rfl) (by decide +kernel) (by decide +kernel) (LFs_nats _) (by rw [natsD_len]; omega) (fun m d hd => ?_) (gone_map hi)) rfl)) ((gone_all hi).trans (decide_eq_true hg))))) (by intro z; cases z))) (by intro z; cases z))) (fun _ => ?_) (by intro z; cases z) (fun δ' hδ => ?_)
              · obtain ⟨j, hj, rfl⟩ := natsD_of hd
                have hjl : j < cs.length := by rw [hl]; exact hwl.lt j (List.mem_of_getElem? hj)
                have hgj : cs[j]? = some (cs.getD j none) := by rw [List.getD_eq_getElem?_getD, List.getElem?_eq_getElem hjl]; rfl
                have hjw : (dl.getD i dflt).waits.getD m 0 = j := by rw [List.getD_eq_getElem?_getD, hj]; rfl
                exact ⟨_, _, true, rfl, fun Y hB D => (xg_n D 12 rfl rfl (lt_of rfl)), fun Y hB D => xts_nil, fun _ => ⟨_, rfl, fun Y hB D => xe_b (xe_isN (xe_ixT (xe_v D 4 rfl rfl rfl) (xe_v D 12 rfl rfl rfl) rfl (atI_of (encCs_get hgj)))) (by rw [isNon_c, hjw]), rfl⟩, (by intro z; cases z), rfl⟩
              · refine xss_app C 5 rfl rfl rfl (xe_tup (ds := [_, _]) (xa_cons (xe_v C 3 rfl rfl rfl) (xa_cons (xe_to (xe_catT (xe_catT (xe_slT (xe_v C 4 rfl rfl rfl) xo_none (xo_some (xe_v C 6 rfl rfl rfl)) rfl) (xe_tup (ds := [_]) (xa_cons xe_non xa_nil) (le_of rfl)) rfl rfl (cut_l1 (by omega) _ _ _)) (xe_slT (xe_v C 4 rfl rfl rfl) (xo_some (xe_add (xe_v C 6 rfl rfl rfl) xe_int)) xo_none rfl) rfl rfl (cut_l2 (by omega) _ _ _ _ _)) (congrArg D.tup (set_cut (c := none) (by omega)))) xa_nil)) (le_of rfl)) rfl (lf_stP (h, cs.set i none)) (by omega) ?_
                exact xss_nil ⟨_, _, _, by rw [hmv, S_mv_app]; rfl⟩
              · obtain ⟨y8, y9, y10, rfl⟩ := hδ
                exact xss_nil ⟨_, _, _, _, _, rfl⟩
            · rw [if_neg (fun z => hg z.2)] at e0
              rw [e0, List.append_nil] at hmv
              refine xss_if0 (xw (xw_and (xt_t (xt_notN (xe_v C 7 rfl rfl rfl)) rfl) (fun _ => (xw_and (xt_t (xt_eq (xe_ixT (xe_v C 7 rfl rfl rfl) xe_int rfl rfl) xe_int opd_eqI) rfl) (fun _ => (xw_and1 (xt_f (xt_v (xe_all (ns := (dl.getD i dflt).waits.map fun o => (cs.getD o none).isNone) C 2 rfl (xe_lcP (own := [("_law_other", 12)]) (fun m => some (D.bl (cs.getD ((dl.getD i dflt).waits.getD m 0) none).isNone)) C [4, 12] [12] [] (xi_t (xe_ixL (xe_v C 1 rfl rfl rfl) (xe_v C 6 rfl rfl rfl) rfl (atI_of hgw)) rfl) (by decide +kernel) (by decide +kernel) (LFs_nats _) (by rw [natsD_len]; omega) (fun m d hd => ?_) (gone_map hi)) rfl)) ((gone_all hi).trans (decide_eq_false hg))))) (by intro z; cases z))) (by intro z; cases z))) (by intro z; cases z) (fun _ => ?_)
              · obtain ⟨j, hj, rfl⟩ := natsD_of hd
                have hjl : j < cs.length := by rw [hl]; exact hwl.lt j (List.mem_of_getElem? hj)
                have hgj : cs[j]? = some (cs.getD j none) := by rw [List.getD_eq_getElem?_getD, List.getElem?_eq_getElem hjl]; rfl
                have hjw : (dl.getD i dflt).waits.getD m 0 = j := by rw [List.getD_eq_getElem?_getD, hj]; rfl
                exact ⟨_, _, true, rfl, fun Y hB D => (xg_n D 12 rfl rfl (lt_of rfl)), fun Y hB D => xts_nil, fun _ => ⟨_, rfl, fun Y hB D => xe_b (xe_isN (xe_ixT (xe_v D 4 rfl rfl rfl) (xe_v D 12 rfl rfl rfl) rfl (atI_of (encCs_get hgj)))) (by rw [isNon_c, hjw]), rfl⟩, (by intro z; cases z), rfl⟩
              · exact xss_nil ⟨_, _, x8, x9, x10, by rw [hmv]; rfl⟩
          · rw [if_neg (fun z => nz z.1)] at e0
            rw [e0, List.append_nil] at hmv
            refine xss_if0 (xw (xw_and (xt_t (xt_notN (xe_v C 7 rfl rfl rfl)) rfl) (fun _ => (xw_and (xt_f (xt_eq (xe_ixT (xe_v C 7 rfl rfl rfl) xe_int rfl rfl) xe_int opd_eqI) (decide_eq_false nz)) (by intro z; cases z) (fun _ => ⟨rfl, rfl⟩))) (by intro z; cases z))) (by intro z; cases z) (fun _ => ?_)
            exact xss_nil ⟨_, _, x8, x9, x10, by rw [hmv]; rfl⟩
    · obtain ⟨x6, x7, x8, x9, x10, rfl⟩ := hI
      refine xss_retm (k := 5) (xe_m C 5 rfl rfl rfl rfl) rfl ?_ (lf_stPs _)
      show D.lst _ = D.lst _
      rw [enumD_len, encCs_len]
theorem c_L_moves (D : Df K mg "_law_moves" s_L_moves) (hg : Glb mg) : CalP P w K mg base 1 "_law_moves" (spD CS R_L_moves) :=
  mkD D hg sc_L_moves ok_L_moves (by intro _ _ h; cases h <;> rfl) (fun X hX C hr ds r hR => b_L_moves C hr hR) (fun f fd F => F.binds fun _ _ _ _ _ _ us hl => match us, hl with | [_, _, _], _ => rfl)
end K06
/-! D20: the law's flood. -/
namespace K06
open PySem PySem.Spec L2
variable {P : Program} {w : World} {K : PySem.W.Frag} {mg : Str → Option Value} {base : Heap} {CS : Addr} {X : Cx}
theorem kd_cell (c : Cell) : KD (encC c) = true ∧ (nkD (encC c)).depth ≤ 1 := by
  cases c with
  | none => exact ⟨rfl, Nat.zero_le _⟩
  | some p =>
    obtain ⟨f, n⟩ := p
    cases f with
    | none => exact ⟨rfl, Nat.le_refl _⟩
    | some f => exact ⟨rfl, Nat.le_refl _⟩
theorem kd_cells : ∀ cs : List Cell, KDs (encCs cs) = true ∧ NestedKey.depthAll (nkDs (encCs cs)) ≤ 1
  | [] => ⟨rfl, Nat.zero_le _⟩
  | c :: cs => by
    obtain ⟨a, b⟩ := kd_cell c
    obtain ⟨a2, b2⟩ := kd_cells cs
    refine ⟨?_, ?_⟩
    · show (KD (encC c) && KDs (encCs cs)) = true
      rw [a, a2]; rfl
    · show max (nkD (encC c)).depth (NestedKey.depthAll (nkDs (encCs cs))) ≤ 1
      omega
theorem kk_st (h : Int) (cs : List Cell) : KK (.tup [.int h, .tup (encCs cs)]) := by
  obtain ⟨a, b⟩ := kd_cells cs
  refine ⟨?_, ?_⟩
  · show (true && (KDs (encCs cs) && true)) = true
    rw [a]; rfl
  · show max 0 (max (NestedKey.depthAll (nkDs (encCs cs)) + 1) 0) + 1 ≤ 8
    omega
theorem kk_sts (sts : List (Int × List Cell)) : ∀ k ∈ sts.map stP, KK k := fun k hk => by
  obtain ⟨p, _, rfl⟩ := List.mem_map.mp hk
  exact kk_st _ _
theorem rk_start {b h : Int} {dl : List Deed} (o : Ok b h dl) : rk (stC dl []) = (dl.map fun d => d.need.toNat).sum + dl.length := by
  have e : (stC dl []).map rkC = dl.map fun d => d.need.toNat + 1 := by
    refine List.ext_getElem? fun i => ?_
    rw [List.getElem?_map, List.getElem?_map]
    by_cases hi : i < dl.length
    · rw [stC_get hi, if_neg (by simp), getD_some hi]
      rfl
    · rw [List.getElem?_eq_none (by rw [stC_len]; omega), List.getElem?_eq_none (by omega)]
      rfl
  unfold rk
  rw [e]
  have key : ∀ l : List Deed, (l.map fun d => d.need.toNat + 1).sum = (l.map fun d => d.need.toNat).sum + l.length := fun l => by
    induction l with
    | nil => rfl
    | cons d l ih => rw [List.map_cons, List.map_cons, List.sum_cons, List.sum_cons, ih, List.length_cons]; omega
  exact key dl
/-- what holds of the waiting -/
structure WQ (c h0 : Int) (dl : List Deed) (wl : List (Int × List Cell)) : Prop where
  fl : ∀ p ∈ wl, FL c dl p.1 p.2 ∧ FB h0 dl p.1 p.2
  ps : ∀ (i : Nat) (p : Int × List Cell), wl[i]? = some p → i + dl.length * rk p.2 < dl.length * (rk (stC dl []) + 1)
/-- .. and of the known -/
structure KQ (h0 : Int) (dl : List Deed) (sts : List (Int × List Cell)) : Prop where
  nd : sts.Nodup
  fb : ∀ p ∈ sts, FB h0 dl p.1 p.2
theorem WQ.next {c h0 : Int} {dl : List Deed} {pre acc : List (Int × List Cell)} {s : Int × List Cell} (hq : WQ c h0 dl (pre ++ [s])) (hn : acc.length ≤ dl.length) (ha : ∀ p ∈ acc, (FL c dl p.1 p.2 ∧ FB h0 dl p.1 p.2) ∧ rk p.2 + 1 = rk s.2) :
    WQ c h0 dl (pre ++ acc) ∧ wt (dl.length + 1) (pre ++ acc) < wt (dl.length + 1) (pre ++ [s]) := by
  have hs := hq.ps pre.length s (by simp)
  refine ⟨⟨fun p hp => ?_, fun i p hp => ?_⟩, ?_⟩
  · rcases List.mem_append.mp hp with e | e
    · exact hq.fl p (List.mem_append_left _ e)
    · exact (ha p e).1
  · by_cases q : i < pre.length
    · rw [List.getElem?_append_left q] at hp
      exact hq.ps i p (by rw [List.getElem?_append_left q]; exact hp)
    · rw [List.getElem?_append_right (by omega)] at hp
      have hlt := (List.getElem?_eq_some_iff.mp hp).1
      have hr := (ha p (List.mem_of_getElem? hp)).2
      rw [← hr, Nat.mul_add] at hs
      omega
  · rw [wt_app, wt_app, wt_one]
    have := wt_lt (b := dl.length + 1) (r := rk s.2) (l := acc) (fun p hp => (ha p hp).2) (by omega)
    omega
theorem WQ.len {b c h0 : Int} {dl : List Deed} {pre : List (Int × List Cell)} {s : Int × List Cell} (o : Ok b h0 dl) (hS : needSum dl (List.range dl.length) < 12) (hn : dl.length < 5) (hq : WQ c h0 dl (pre ++ [s])) : pre.length ≤ 64 := by
  have hs := hq.ps pre.length s (by simp)
  have h1 := rk_start o
  have h2 := sum_toNat o
  have h3 : dl.length * (rk (stC dl []) + 1) ≤ 4 * 16 := Nat.mul_le_mul (by omega) (by omega)
  omega
theorem waits_map (dl : List Deed) : (List.range (encDs dl).length).filterMap (fun i => some (D.tup (natsD (dl.getD i dflt).waits))) = encW (wts dl) := by
  rw [encDs_len, fm_some]
  unfold encW wts
  rw [List.map_map]
  exact range_get _ _ _ fun m x hx => by rw [getD_of hx]; rfl
inductive R_L_can : List D → D → Prop
  | mk {b c h : Int} {dl : List Deed} : Ok b h dl → fineB c h dl = false → 0 ≤ c → dl.length < 5 → needSum dl (List.range dl.length) < 12 → R_L_can [prt c h dl] (.bl false)
abbrev S_can (X : Cx) (c h : Int) (dl : List Deed) (lk lw : Addr) (sts wl : List (Int × List Cell)) (x8 x9 : Option Slot) : Sto := [some (.im (prt c h dl)), some (.im (.int c)), some (.im (.int h)), some (.im (.tup (encDs dl))), some (.im (.lst (encW (wts dl)))), some (.im (stD h (stC dl []))), some (.ex lk (sts.map stP) (KdPhi X.prog X.w lk (sts.map stP))), some (.ml lw (wl.map stP)), x8, x9, none, none]
theorem b_L_can (C : Ctx X (defScope s_L_can) N_L_can V_L_can V_L_can G_L_can) (hr : Room 2 X.A) (c_L_used : CalX X 1 "_law_used" (spD CS R_L_used)) (c_L_moves : CalX X 1 "_law_moves" (spD CS R_L_moves)) {ds : List D} {r : D} (hR : R_L_can ds r) :
    XSs X CS (defBody s_L_can) (startD N_L_can (ds.map Slot.im)) (Pr r) := by
  cases hR with
  | @mk b c h dl o hf c0 hn hS =>
    have hlen := o.len
    refine xss_asg (xe_v C 0 rfl rfl rfl) (xg_t C (xgs_cons (xg_n C 1 rfl rfl (lt_of rfl)) (xgs_cons (xg_n C 2 rfl rfl (lt_of rfl)) (xgs_cons (xg_n C 3 rfl rfl (lt_of rfl)) xgs_nil))) rfl) ?_
    by_cases hu : used0 h dl ≤ c
    · refine xss_if0 (xt_f (xt_gt (xn (xe_call c_L_used hr (by decide) C 0 rfl (xa_cons (xe_v C 2 rfl rfl rfl) (xa_cons (xe_v C 3 rfl rfl rfl) xa_nil)) (argc_ds _ [_, _]) (.mk o))) (xe_v C 1 rfl rfl rfl)) (decide_eq_false (by omega))) (by intro z; cases z) (fun _ => ?_)
      refine xss_setLcP (own := [("_law_deed", 10)]) (fun i => some (D.tup (natsD (dl.getD i dflt).waits))) C 4 rfl rfl (by decide +kernel) [10] [10] [] (xi_t (xe_v C 3 rfl rfl rfl) rfl) (by decide +kernel) (by decide +kernel) (lf_encs dl) (by rw [encDs_len]; omega) (fun i d hd => ?_) (waits_map dl) rfl rfl (by decide +kernel) (lt_of rfl) ?_
      · obtain ⟨dd, e, rfl⟩ := encDs_of hd
        have e2 := getD_of e
        exact ⟨_, _, true, rfl, fun Y hB D => (xg_n D 10 rfl rfl (lt_of rfl)), fun Y hB D => xts_nil, fun _ => ⟨_, rfl, fun Y hB D => xe_to (xe_ixT (xe_v D 10 rfl rfl rfl) xe_int rfl rfl) (by rw [e2]), by show LFs _ = true; exact LFs_nats _⟩, (by intro z; cases z), rfl⟩
      refine xss_set (x := stD h (stC dl [])) C 5 rfl rfl (xe_tup (ds := [_, _]) (xa_cons (xe_v C 2 rfl rfl rfl) (xa_cons (xe_tuple C 1 rfl (xe_lcP (own := [("_law_deed", 10)]) (fun i => some (encC (some ((dl.getD i dflt).first, (dl.getD i dflt).need)))) C [10] [10] [] (xi_t (xe_v C 3 rfl rfl rfl) rfl) (by decide +kernel) (by decide +kernel) (lf_encs dl) (by rw [encDs_len]; omega) (fun i d hd => ?_) (stC_map dl)) rfl) xa_nil)) (le_of rfl)) ?_ (lt_of rfl)
      · obtain ⟨dd, e, rfl⟩ := encDs_of hd
        have e2 := getD_of e
        exact ⟨_, _, true, rfl, fun Y hB D => (xg_n D 10 rfl rfl (lt_of rfl)), fun Y hB D => xts_nil, fun _ => ⟨_, rfl, fun Y hB D => xe_to (xe_slT (xe_v D 10 rfl rfl rfl) xo_none (xo_some xe_int) rfl) (by rw [e2]; exact cut2 dd), lf_c _⟩, (by intro z; cases z), rfl⟩
      refine xss_setK (ds := [.int h, .tup (encCs (stC dl []))]) hr C 6 rfl rfl (xe_v C 5 rfl rfl rfl) (xe_bl) (kk_st _ _) (lf_st h (stC dl [])) (lt_of rfl) (fun lk => ?_)
      refine xss_setL C 7 rfl rfl (xe_lst (ds := [_]) (xa_cons (xe_v C 5 rfl rfl rfl) xa_nil) (le_of rfl) (by show (LF (stD h (stC dl [])) && true) = true; rw [lf_st]; rfl)) (by show (LF (stD h (stC dl [])) && true) = true; rw [lf_st]; rfl) (fun lw => ?_) (lt_of rfl)
      refine xss_while C (fun m δ => ∃ wl sts x8 x9, δ = S_can X c h dl lk lw sts wl x8 x9 ∧ m = wt (dl.length + 1) wl ∧ WQ c h dl wl ∧ KQ h dl sts) (fun _ => True) (wt (dl.length + 1) [(h, stC dl [])]) ⟨[(h, stC dl [])], [(h, stC dl [])], none, none, rfl, rfl, ⟨fun p hp => ?_, fun i p hp => ?_⟩, ⟨by simp, fun p hp => ?_⟩⟩ (fun m δ hI => ?_) (fun δ _ => xss_ret xe_bl rfl rfl)
      · rw [List.mem_singleton] at hp
        subst hp
        exact ⟨FL.start o hf hu, FB.start⟩
      · have hd0 : 0 < dl.length := by
          obtain ⟨d, hd, _⟩ := (FL.start o hf hu).x
          omega
        cases i with
        | zero =>
          cases hp
          show 0 + dl.length * rk (stC dl []) < dl.length * (rk (stC dl []) + 1)
          rw [Nat.mul_add]
          omega
        | succ i => simp at hp
      · rw [List.mem_singleton] at hp
        subst hp
        exact FB.start
      · obtain ⟨wl, sts, x8, x9, rfl, rfl, hq, hk⟩ := hI
        refine ⟨_, _, (xt_gt (xe_len C 2 rfl (xe_m C 7 rfl rfl rfl rfl) (.inl ⟨7, rfl⟩)) xe_int), (fun hb => ?_), (fun hb => trivial)⟩
        have hne : wl ≠ [] := by
          intro z
          rw [z] at hb
          cases hb
        obtain ⟨pre, s, rfl⟩ : ∃ pre s, wl = pre ++ [s] := ⟨wl.dropLast, wl.getLast hne, (List.dropLast_concat_getLast hne).symm⟩
        have hpl := hq.len o hS hn
        obtain ⟨sfl, sfb⟩ := hq.fl s (by simp)
        have hsl : s.2.length = dl.length := sfb.len
        have hS1 : S_can X c h dl lk lw sts (pre ++ [s]) x8 x9 = [some (.im (prt c h dl)), some (.im (.int c)), some (.im (.int h)), some (.im (.tup (encDs dl))), some (.im (.lst (encW (wts dl)))), some (.im (stD h (stC dl []))), some (.ex lk (sts.map stP) (KdPhi X.prog X.w lk (sts.map stP))), some (.ml lw (pre.map stP ++ [stP s])), x8, x9, none, none] := by unfold S_can; rw [List.map_append]; rfl
        rw [hS1]
        refine xss_set C 8 rfl rfl (xe_pop C 7 rfl rfl rfl) ?_ (lt_of rfl)
        have hnone : (s.2.map fun c => c.isNone).all id = false := by
          obtain ⟨i, p, hp⟩ := sfl.alive
          rw [Bool.eq_false_iff]
          intro z
          rw [List.all_map] at z
          have := List.all_eq_true.mp z _ (List.mem_of_getElem? hp)
          cases this
        refine xss_if0 (xt_f (xt_v (xe_all (ns := s.2.map fun c => c.isNone) C 3 rfl (xe_lcP (own := [("_law_here", 11)]) (fun m => some (D.bl (s.2.getD m none).isNone)) C [11] [11] [] (xi_t (xe_ixT (ds := [_, _]) (xe_v C 8 rfl rfl rfl) xe_int rfl rfl) rfl) (by decide +kernel) (by decide +kernel) (lf_cs s.2) (by rw [encCs_len]; omega) (fun m d hd => ?_) ?_) rfl)) hnone) (by intro z; cases z) (fun _ => ?_)
        · obtain ⟨c', hc', rfl⟩ := encCs_of hd
          exact ⟨_, _, true, rfl, fun Y hB D => (xg_n D 11 rfl rfl (lt_of rfl)), fun Y hB D => xts_nil, fun _ => ⟨_, rfl, fun Y hB D => xe_b (xe_isN (xe_v D 11 rfl rfl rfl)) (by rw [isNon_c, cellD hc']), rfl⟩, (by intro z; cases z), rfl⟩
        · rw [encCs_len, fm_some, List.map_map]
          exact range_get _ _ _ fun m x hx => by rw [cellD hx]; rfl
        refine xss_for C (xi_l (xn (xe_call c_L_moves hr (by decide) C 4 rfl (xa_cons (xe_v C 1 rfl rfl rfl) (xa_cons (xe_v C 4 rfl rfl rfl) (xa_cons (xe_v C 8 rfl rfl rfl) xa_nil))) (argc_ds _ [_, _, _]) (.mk (h := s.1) (cs := s.2) (c := c) o hsl))) rfl) (fun i δ => ∃ acc sts x9, δ = S_can X c h dl lk lw sts (pre ++ acc) (some (.im (stP s))) x9 ∧ acc.length ≤ i ∧ (∀ p ∈ acc, p ∈ mvF c (wts dl) s.1 s.2 s.2.length) ∧ KQ h dl sts) _ ⟨[], sts, x9, by unfold S_can; rw [List.append_nil]; rfl, Nat.le_refl _, (fun p hp => by cases hp), hk⟩ (fun i d δ hd hI => ?_) (fun δ z => z) (fun δ hI => ?_)
        · obtain ⟨acc, sts, x9, rfl, ha, hm, hk⟩ := hI
          rw [List.getElem?_map] at hd
          cases q : (mvF c (wts dl) s.1 s.2 s.2.length)[i]? with
          | none => rw [q] at hd; cases hd
          | some p =>
            rw [q] at hd
            have hdp : d = stP p := (Option.some.inj hd).symm
            subst hdp
            have hin := List.mem_of_getElem? q
            have hil : i < s.2.length := by
              have := (List.getElem?_eq_some_iff.mp q).1
              have := mvF_len c (wts dl) s.1 s.2 s.2.length
              omega
            have hpb : FB h dl p.1 p.2 := sfb.step o hS sfl.i (mvF_mv hin)
            refine ⟨_, _, (xg_n C 9 rfl rfl (lt_of rfl)), ?_⟩
            by_cases hkn : nkD (stP p) ∈ (sts.map stP).map nkD
            · refine xss_if0 (xt_f (xt_knotin (ds := [.int p.1, .tup (encCs p.2)]) hr C 6 rfl rfl (xe_v C 9 rfl rfl rfl) rfl (kk_sts sts) (kk_st _ _)) (congrArg not (decide_eq_true hkn))) (by intro z; cases z) (fun _ => ?_)
              exact xss_nil ⟨acc, sts, _, rfl, by omega, hm, hk⟩
            · have hps : p ∉ sts := fun z => hkn (List.mem_map.mpr ⟨_, List.mem_map.mpr ⟨p, z, rfl⟩, rfl⟩)
              have hfew := few o hS hn hk.nd hk.fb
              refine xss_if (Mid := fun δ' => δ' = S_can X c h dl lk lw (sts ++ [p]) (pre ++ (acc ++ [p])) (some (.im (stP s))) (some (.im (stP p)))) (xt_t (xt_knotin (ds := [.int p.1, .tup (encCs p.2)]) hr C 6 rfl rfl (xe_v C 9 rfl rfl rfl) rfl (kk_sts sts) (kk_st _ _)) (congrArg not (decide_eq_false hkn))) (fun _ => ?_) (by intro z; cases z) (fun δ' hδ => ?_)
              · refine xss_kput (ds := [.int p.1, .tup (encCs p.2)]) hr C 6 rfl rfl xe_bl (xe_v C 9 rfl rfl rfl) rfl (kk_sts sts) (kk_st _ _) (lf_stP p) hkn (by rw [List.length_map, sizeLine_eq]; omega) ?_
                refine xss_app C 7 rfl rfl rfl (xe_v C 9 rfl rfl rfl) rfl (lf_stP p) (by rw [List.length_map, List.length_append]; omega) ?_
                refine xss_nil ?_
                unfold S_can
                rw [List.map_append, ← List.append_assoc, List.map_append (l₁ := pre ++ acc)]
                rfl
              · subst hδ
                refine xss_nil ⟨acc ++ [p], sts ++ [p], _, rfl, by rw [List.length_append, List.length_singleton]; omega, fun x hx => ?_, ⟨?_, fun x hx => ?_⟩⟩
                · rcases List.mem_append.mp hx with e | e
                  · exact hm x e
                  · rw [List.mem_singleton.mp e]; exact hin
                · rw [List.nodup_append]
                  refine ⟨hk.nd, by simp, fun a ha b hb e => ?_⟩
                  rw [List.mem_singleton.mp hb] at e
                  exact hps (e ▸ ha)
                · rcases List.mem_append.mp hx with e | e
                  · exact hk.fb x e
                  · rw [List.mem_singleton.mp e]; exact hpb
        · obtain ⟨acc, sts, x9, rfl, ha, hm, hk⟩ := hI
          rw [List.length_map] at ha
          have hml := mvF_len c (wts dl) s.1 s.2 s.2.length
          obtain ⟨w1, w2⟩ := hq.next (acc := acc) (by omega) (fun p hp => ⟨⟨sfl.step c0 o.wf (mvF_mv (hm p hp)), sfb.step o hS sfl.i (mvF_mv (hm p hp))⟩, (mvF_mv (hm p hp)).rk⟩)
          exact xss_nil ⟨_, w2, pre ++ acc, sts, _, _, rfl, rfl, w1, hk⟩
    · exact xss_if0 (xt_t (xt_gt (xn (xe_call c_L_used hr (by decide) C 0 rfl (xa_cons (xe_v C 2 rfl rfl rfl) (xa_cons (xe_v C 3 rfl rfl rfl) xa_nil)) (argc_ds _ [_, _]) (.mk o))) (xe_v C 1 rfl rfl rfl)) (decide_eq_true (by omega))) (fun _ => xss_ret xe_bl rfl rfl) (by intro z; cases z)
theorem c_L_can (D : Df K mg "_law_can" s_L_can) (hg : Glb mg) (c_L_used : CalP P w K mg base 1 "_law_used" (spD CS R_L_used)) (c_L_moves : CalP P w K mg base 1 "_law_moves" (spD CS R_L_moves)) : CalP P w K mg base 3 "_law_can" (spD CS R_L_can) :=
  mkD D hg sc_L_can ok_L_can (by intro _ _ h; cases h <;> rfl) (fun X hX C hr ds r hR => b_L_can C hr (hX.cal c_L_used) (hX.cal c_L_moves) hR) (fun f fd F => F.binds fun _ _ _ _ _ _ us hl => match us, hl with | [_], _ => rfl)
end K06
/-! K16: a lambda is made, handed over, called. -/
namespace K06
open PySem PySem.Spec L2
/-- the lambda's object -/
abbrev lamObj (F : NdefX.NF) (e : Expr) (pm ctv : Value) : Obj := PySem.W.kla_obj F.name F.qual F.params e F.scope F.cl pm F.c ctv
section
variable {P : Program} {w : World} {K : PySem.W.Frag} {mg : Str → Option Value} {base : Heap} {N ps fr : List Str} {F : NdefX.NF} {e : Expr} {f : Addr} {CS : Addr}
theorem cells_un {cl : List (Str × Addr)} {ws : List (Option V)} {h h1 : Heap} {H H1 : Hp} {fs : List Addr} (C : NdefX.CellsAt cl fr ws h H) (u : Un fs [] H H1 h h1) : NdefX.CellsAt cl fr ws h1 H1 := by
  have key : ∀ (c : Addr) (v : Option Value), H c = none → h.IsCell c v → H1 c = none ∧ h1.IsCell c v := fun c v n z => by
    obtain ⟨o, ho, hd⟩ := z
    obtain ⟨sl, q⟩ := u.any ho n (by simp)
    exact ⟨u.free c o ho n (by simp), _, q, hd⟩
  refine ⟨C.len, fun y c ec => ?_, C.inj, fun i y ey => ?_⟩
  · obtain ⟨n, v, z⟩ := C.all y c ec
    obtain ⟨n1, z1⟩ := key c v n z
    exact ⟨n1, v, z1⟩
  · obtain ⟨c, hc, hv⟩ := C.has i y ey
    refine ⟨c, hc, fun v ev => ?_⟩
    obtain ⟨x, r, z⟩ := hv v ev
    exact ⟨x, r, (key c _ (C.all y c hc).1 z).2⟩
/-- the context of the lambda's body -/
theorem Ctx.lam {vs : List Nat} {gs : List Str} {A : Around} {outer : List Env} {s : Shared} {H : Hp} (h : scOk N vs [] gs F.scope = true) (nd : N.Nodup) (hg : Glb mg) : Ctx (NdefX.ncx C8.CX0 P w K mg base N F f A outer s H C8.E0).nox F.scope N vs [] gs := by
  unfold scOk at h
  simp only [Bool.and_eq_true] at h
  exact ⟨rfl, rfl, nd, fun i x hi hx => visB_vis (okAt_get h.1.1 hi hx), fun i x hi hx => (by cases hi), fun j x hj => glB_gl (List.all_eq_true.mp h.2 x (List.mem_of_getElem? hj)), rfl, hg, PassesOwn.never⟩
theorem startF_ints (vs : List V) (ks : List Int) : NdefX.startF N vs (ks.map fun i => some (V.int i)) = L2.start N (vs ++ ks.map V.int) := by
  unfold NdefX.startF L2.start
  rw [List.map_append, List.append_assoc, List.map_map, List.length_append, List.length_map, List.length_map, Nat.sub_sub]
  rfl
/-- the lambda is called -/
theorem run_lam {k : Nat} {A : Around} {outer : List Env} {s : Shared} {H : Hp} {us : List Value} {vs : List V} {ws : List (Option V)} {Q : VK} {pm ctv : Value} (S : NdefX.NScope N ps fr F.scope) (hr : Room (k + 1) A) (e0 : Env0 P w K mg base A outer s H) (ho : s.heap.get? f = some (lamObj F e pm ctv)) (hc : H F.c = some (LamX.CodeO F.c F.qual))
    (hb : bindArgs (PySem.W.kla_fn F.name F.qual F.params e F.scope F.cl pm (.ref F.c) ctv) ⟨us, []⟩ = pure (ps.zip us)) (C : NdefX.CellsAt F.cl fr ws s.heap H) (r : Vals vs us) (hl : vs.length = ps.length)
    (hbody : Room k (A.deeper (NdefX.envF F f s.heap.objs.size)) → ∃ t, PE (NdefX.ncx C8.CX0 P w K mg base N F f A outer s H C8.E0).nox e t ∧ t (NdefX.startF N vs ws) H Q) : codeAny (model P w) A (.call (.ref f) ⟨us, []⟩) (CR C8.CX0 outer P w H s Q C8.E0) s := by
  have lim : s.heap.NoLimit := e0.mod.nolimit.keeps fun b o z => (e0.bs b o z).1
  refine PySem.W.kla_callFunE hr.depth ho rfl S.co S.gen rfl (NdefX.codeO_at e0.hok hc) ?_
  rw [hb]
  refine wpAny_pure (wpAny_newFunctionEnv S.nocell (fun y hy => S.par y.1 (List.of_mem_zip (show (y.1, y.2) ∈ ps.zip us from hy)).1) (fun h2 hns hsb => ⟨lim.fresh _ hsb, ?_⟩) S.kind)
  have kp : ∀ (b : Addr) (o : Obj), s.heap.get? b = some o → h2.get? b = some o := fun b o z => hsb.extBut b o (Nat.ne_of_lt (Heap.lt_size z)) (Heap.get?_push_of_some _ z)
  obtain ⟨t, ht, hq⟩ := hbody (hr.deeper _)
  have J := NdefX.inv_startN (CX := C8.CX0) (E := C8.E0) (f := f) (tk := s.toks + (ps.zip us).length) S hr.hd e0 hl r C hns kp
  refine PySem.W.kla_codeExpr (wpAny_mono (ht.nox.run [] _ (NdefX.startF N vs ws) H Q J hq) (fun v s' z => ?_) fun e' s' z => z)
  obtain ⟨x, H', J', rv, q⟩ := z
  exact ⟨x, H', J'.os, J'.bare, J'.base, J'.hok, rv, q⟩
end
section
variable {X : Cx} {pins : List (Addr × Obj)} {σ : L2.St} {H : Hp} {s : Shared}
/-- what is known behind a lambda's making -/
structure LamN (X : Cx) (T : List (Addr × Str)) (pins : List (Addr × Obj)) (σ : L2.St) (H : Hp) (F : NdefX.NF) (e : Expr) (f : Addr) (pm ctv : Value) (H1 : Hp) (s1 : Shared) : Prop where
  inv : Inv X pins σ H1 s1
  ex : LamX.ExtN H H1
  th : ∀ b, H b ≠ none → H1 b ≠ none
  ts : LamX.Tabs T H1
  ob : s1.heap.get? f = some (lamObj F e pm ctv)
  fr : H1 f = none
  nf : f ∉ frs X.stack
  co : H1 F.c = some (LamX.CodeO F.c F.qual)
abbrev lamF (X : Cx) (params : Arguments) (scope : Scope) (c' : Addr) : NdefX.NF := ⟨"<lambda>", X.env.qual ++ "<lambda>", params, [], scope, cloFrom X.env.cells scope.names [], c'⟩
theorem lam_mk3 {T : List (Addr × Str)} {c P : Addr} {params : Arguments} {e : Expr} {scope : Scope} {pos : Pos} {E Q : Value → Shared → Prop} (I : Inv X pins σ H s) (TB : LamX.TabB X.base X.mg c P) (hcode : X.env.code = .ref c) (hT : LamX.Tabs T H)
    (hm : (P, X.env.qual ++ "<lambda>") ∈ T) (hu : ∀ p ∈ T, p.1 = P → p.2 = X.env.qual ++ "<lambda>") (hd : defaultsOf params X.env = ([], [])) (hfree : ∀ y ∈ scope.names, y.2 = .free → ∃ c, X.env.cells.lookup y.1 = some c)
    (goal : ∀ (f c' : Addr) (pm ctv : Value) (H1 : Hp) (s1 : Shared), LamN X T pins σ H (lamF X params scope c') e f pm ctv H1 s1 → Q (.ref f) s1) : wpAny (model X.prog X.w) X.A (eval (.Lambda params e scope pos) X.env) Q E s := by
  have hcl := closure_ok (env := X.env) hfree
  have hg := I.ok.glob
  have hns := I.mod.glob.keeps I.bk
  have hcd := TB.code.keeps I.bk
  have hbm : s.heap.BuiltinsAt X.mg P := TB.bm.keeps I.bk
  obtain ⟨tab, hP, ok, told⟩ := hT _ hm
  have obP : s.heap.get? P = some { cls := .none, data := .fields tab } := I.hok P _ hP
  have away : ∀ f : Addr, s.heap.objs.size ≤ f → f ∉ frs X.stack := fun f hf z => by
    have := I.stkSub _ z
    rw [List.mem_cons] at this
    rcases this with q | q
    · exact absurd (Nat.lt_of_lt_of_le (q ▸ I.lt) hf) (Nat.lt_irrefl f)
    · exact I.nofs hf q
  refine PySem.W.kla_eval hd ?_
  rcases hq : codeAmong pos tab.toList with _ | cv
  · refine PySem.W.kla_makeFunction (mg := X.mg) (P := P) (ps := tab) hcl hg hns hcode hcd obP ok hq TB.gP hbm (fun c' ctv h' tk hx hge hlt hrec htb => ?_)
    obtain ⟨c2, oc, vs, t, e2, hoc, hdc, hvc⟩ := hrec
    cases e2
    have nc : H c' = none := I.hok.fresh hge
    have ht2 : Array.toList (tab ++ #[rawInt pos.line, rawInt pos.col, .ref c']) = tab.toList ++ [rawInt pos.line, rawInt pos.col, .ref c'] := by simp
    have I1 := LamX.inv_table (t' := tk) (more := #[rawInt pos.line, rawInt pos.col, .ref c']) I hP (h' := h'.push (lamObj (lamF X params scope c') e ((X.mg "__name__").getD .none) ctv))
      (fun b o hb z => Heap.get?_push_of_some _ (hx b o hb z)) (Heap.get?_push_of_some _ htb) hge ⟨oc, vs, t, Heap.get?_push_of_some _ hoc, hdc, hvc⟩
    generalize hH1 : upd (upd H P (.tbl (tab ++ #[rawInt pos.line, rawInt pos.col, .ref c']))) c' (LamX.CodeO c' (X.env.qual ++ "<lambda>")) = H1 at I1
    have atC : H1 c' = some (LamX.CodeO c' (X.env.qual ++ "<lambda>")) := by rw [← hH1]; exact upd_same
    have nPc : P ≠ c' := ne_of_none hP nc
    have atP : H1 P = some (.tbl (tab ++ #[rawInt pos.line, rawInt pos.col, .ref c'])) := by rw [← hH1, upd_ne nPc]; exact upd_same
    have off : ∀ b, b ≠ P → b ≠ c' → H1 b = H b := fun b x y => by rw [← hH1, upd_ne y, upd_ne x]
    have ext : LamX.ExtN H H1 := fun b o z n => by
      refine (off b (fun y => ?_) (ne_of_none z nc)).trans z
      rw [y, hP] at z
      exact n tab (Option.some.inj z).symm
    have szf : s.heap.objs.size ≤ h'.objs.size := by omega
    refine goal h'.objs.size c' ((X.mg "__name__").getD .none) ctv H1 _ ⟨I1, ext, fun b z y => ?_, fun p hp => ?_, Heap.get?_push_size _ rfl, ?_, away _ szf, atC⟩
    · by_cases q1 : b = P
      · rw [q1, atP] at y; cases y
      · by_cases q2 : b = c'
        · rw [q2, atC] at y; cases y
        · rw [off b q1 q2] at y; exact z y
    · by_cases q1 : p.1 = P
      · rw [q1, hu p hp q1]
        refine ⟨_, atP, by rw [ht2]; exact PySem.TriplesOk_snoc _ _ _ _ ok, fun pos2 cv2 h2 => ?_⟩
        rw [ht2] at h2
        rcases LamX.among_app _ ok h2 with z | z
        · obtain ⟨c0, z1, z2⟩ := told pos2 cv2 z
          exact ⟨c0, z1, ext _ _ z2 LamX.codeO_ne⟩
        · exact ⟨c', z, atC⟩
      · obtain ⟨tab2, a1, a2, a3⟩ := hT p hp
        refine ⟨tab2, (off _ q1 (ne_of_none a1 nc)).trans a1, a2, fun pos2 cv2 h2 => ?_⟩
        obtain ⟨c0, z1, z2⟩ := a3 pos2 cv2 h2
        exact ⟨c0, z1, ext _ _ z2 LamX.codeO_ne⟩
    · have n1 : h'.objs.size ≠ c' := by omega
      have n2 : h'.objs.size ≠ P := fun z => absurd (Nat.lt_of_lt_of_le (Heap.lt_size obP) szf) (by rw [z]; exact Nat.lt_irrefl P)
      rw [off _ n2 n1]
      exact I.hok.fresh szf
  · obtain ⟨c', e2, hco⟩ := told pos cv hq
    subst e2
    refine PySem.W.kla_makeFunctionHit (mg := X.mg) (P := P) (ps := tab) hcl hg hns hcode hcd obP ok hq hbm (fun ctv h' tk hx hsz => ?_)
    have I1 : Inv X pins σ H { s with heap := h'.push (lamObj (lamF X params scope c') e ((X.mg "__name__").getD .none) ctv), toks := tk } := I.kept (fun b o z => Heap.get?_push_of_some _ (hx b o z))
    exact goal h'.objs.size c' ((X.mg "__name__").getD .none) ctv H _ ⟨I1, LamX.ExtN.refl H, fun _ z => z, hT, Heap.get?_push_size _ rfl, I.hok.fresh hsz, away _ hsz, hco⟩
end
/-! ### what stays where tables grow -/
section
variable {CS : Addr} {A : AP1} {B : Bo} {H H' : Hp} {σ : L2.St} {δ : Sto} {v : V}
theorem stayN (e : LamX.ExtN H H') : Stay A H H' := ⟨fun a vs h => e a _ h (by intro _ z; cases z), fun a o _ t h => e a o h t⟩
theorem SlotOk.extN {t : Slot} (e : LamX.ExtN H H') (h : SlotOk CS A B H t v) : SlotOk CS A B H' t v := by
  have up : ∀ (a : Addr) (o : HO), H a = some o → NT o → H' a = some o := fun a o z n => e a o z n
  have st : Stay (Un2 A B) H H' := stayN e
  cases t with
  | im d => exact Rep.stay st d v h
  | ml l ds =>
    obtain ⟨h1, h2, lf, us, h3, h4⟩ := h
    exact ⟨h1, h2, lf, us, up _ _ h3 (by intro _ z; cases z), Reps.stay st ds us h4⟩
  | md l kvs =>
    obtain ⟨h1, h2, lf, us, h3, h4, h5⟩ := h
    exact ⟨h1, h2, lf, us, up _ _ h3 (by intro _ z; cases z), h4, Reps.stay st _ _ h5⟩
  | hd p c g =>
    obtain ⟨h1, h2, h3, h4, h5⟩ := h
    exact ⟨h1, h2, h3, up _ _ h4 (by intro _ z; cases z), up _ _ h5 (by intro _ z; cases z)⟩
  | ob l fs =>
    obtain ⟨h1, h2, lf, dx, fv, h3, h4, h5⟩ := h
    exact ⟨h1, h2, lf, dx, fv, up _ _ h3 (by intro _ z; cases z), h4, Reps.stay st _ _ h5⟩
  | ex l ks Φ =>
    obtain ⟨h1, h2, lf, us, h3, h4, h5⟩ := h
    exact ⟨h1, h2, lf, us, up _ _ h3 (by intro _ z; cases z), h4, Reps.stay st _ _ h5⟩
  | tb ts => exact h
theorem mut_nt {o : HO} (m : Mut (some o)) : NT o := by
  intro ps z
  subst z
  exact m
theorem SR.extN (r : SR CS A B σ H δ) (e : LamX.ExtN H H') (T : LamX.Tabs B.t H') : SR CS A B σ H' δ := by
  have at_ : ∀ a, Un2 A B a → ∃ o, H a = some o ∧ H' a = some o ∧ Mut (some o) := fun a h => by
    have m := r.muts a h
    cases q : H a with
    | none => rw [q] at m; exact m.elim
    | some o =>
      rw [q] at m
      exact ⟨o, rfl, e a o q (mut_nt m), m⟩
  refine ⟨r.len, fun a h => ?_, fun i t z => ?_, r.sep, ⟨T, fun hB c q hc hu => ?_⟩⟩
  · obtain ⟨o, _, h2, m⟩ := at_ a h
    rw [h2]
    exact m
  · obtain ⟨v, h1, h2⟩ := r.sl i t z
    exact ⟨v, h1, h2.extN e⟩
  · obtain ⟨o, h1, h2, _⟩ := at_ c hu
    rw [hc] at h2
    cases h2
    exact r.tabs.nc hB c q h1 hu
theorem ext_extN (hB : B.t ≠ []) (e : LamX.ExtN H H') (th : ∀ b, H b ≠ none → H' b ≠ none) : Ext A B H A H' :=
  ⟨fun a o _ t h => t.elim (fun z => absurd z hB) fun n => e a o h n, fun _ z => z, fun _ z => .inl z, th, fun a vs h => e a _ h (by intro _ z; cases z)⟩
end
end K06
/-! D21: watched, called with a lambda. -/
namespace K06
open PySem PySem.Spec L2
section
variable {P : Program} {w : World} {K : PySem.W.Frag} {mg : Str → Option Value} {base : Heap} {CS : Addr}
/-- the lambda's body: captured numbers ks; what it says -/
def LamSays (P : Program) (w : World) (K : PySem.W.Frag) (mg : Str → Option Value) (base : Heap) (CS : Addr) (kk : Nat) (N : List Str) (ks : List Int) (F : NdefX.NF) (e : Expr) (k : Int) : Prop :=
  ∀ (f : Addr) (A : Around) (outer : List Env) (s : Shared) (H : Hp) (b c h : Int) (dl : List Deed) (wi : Wish), Room kk (A.deeper (NdefX.envF F f s.heap.objs.size)) → Ok b h dl → OkW b dl wi →
    ∃ δ', XE (NdefX.ncx C8.CX0 P w K mg base N F f A outer s H C8.E0).nox CS e (startD N ([.im (.std c h (encDs dl)), .im wi.enc] ++ ks.map fun i => .im (.int i))) (.n (.bl (letsB k c (h + more wi) (bh h dl wi)))) δ'
theorem keep_of {X : Cx} {kk : Nat} {N ps fr : List Str} {ks : List Int} {F : NdefX.NF} {e : Expr} {k : Int} {f : Addr} {pm ctv : Value} {Ng : List Str} {x : Str} {sg : Scope} {g : Addr} {cdg : Value} {A : Around} {outer : List Env} {s : Shared} {H : Hp} {vs ls : List Nat} {gs : List Str}
    (hX : X = (cxOf C8.CX0 P w K mg base Ng x sg g cdg A outer s H C8.E0).nox) (C : Ctx X sg Ng vs ls gs) (hN0 : Ng[0]? = some ("keeper" : Str)) (hv0 : vs.contains 0 = true) (hr : Room (kk + 1) (A.deeper (PyProof.Rows.envOfC x sg s.heap.objs.size g cdg)))
    (says : LamSays P w K mg base CS kk N ks F e k) (S : NdefX.NScope N ps fr F.scope) (hp2 : ps.length = 2) (hb : ∀ (a b pm ctv : Value), bindArgs (PySem.W.kla_fn F.name F.qual F.params e F.scope F.cl pm (.ref F.c) ctv) ⟨[a, b], []⟩ = pure (ps.zip [a, b]))
    (ho : s.heap.get? f = some (lamObj F e pm ctv)) (hf : H f = none) (hfr : f ∉ frs outer) (hC : NdefX.CellsAt F.cl fr (ks.map fun i => some (V.int i)) s.heap H) :
    KeepC X CS f F.c (LamX.CodeO F.c F.qual) k := by
  intro δ b c h dl wi p pos p1 p2 n1 n2 h0 ha ok okw
  obtain ⟨g1, g2, g3⟩ := C.vis 0 _ hv0 hN0
  refine ⟨fun pins s1 σ HZ Q IZ ⟨A1, B1, sr, kk1⟩ => ?_⟩
  obtain ⟨v0, e0, r0⟩ := sr.sl 0 _ h0
  obtain ⟨ev0, nA, nt, hco⟩ := r0
  subst ev0
  have un : ∀ (pins : List (Addr × Obj)) (σ : L2.St) (H2 : Hp) (s2 : Shared), Inv X pins σ H2 s2 → Un (frs outer) [] H H2 s.heap s2.heap := fun pins σ H2 s2 I => by
    subst hX
    exact I.base
  have keep : ∀ (pins : List (Addr × Obj)) (σ : L2.St) (H2 : Hp) (s2 : Shared), Inv X pins σ H2 s2 → s2.heap.get? f = some (lamObj F e pm ctv) := fun pins σ H2 s2 I => (un pins σ H2 s2 I).keep f _ ho hf hfr (by simp)
  refine wpAny_Call_Name_kw (thn ((pe_var (X := X) (pos := p) (i := 0) (by rw [C.hN]; exact hN0) g1 g2 g3).run pins s1 σ HZ (fun v H1 => v = .ref f ∧ H1 = HZ) IZ ⟨.ref f, e0, rfl, rfl⟩) fun u s2 ⟨v, H1, I1, r1, ev, eH⟩ => ?_)
  subst ev
  rw [eH] at I1
  obtain rfl : u = Value.ref f := r1
  refine PySem.W.callWith_F (first := []) ⟨_, _, _, _, keep _ _ _ _ I1⟩ (thn (ha.run pos pins s2 σ HZ (fun vs H2 => Ext A1 B1 HZ A1 H2 ∧ SR CS A1 B1 σ H2 δ ∧ RRs CS A1 B1 HZ H2 [.d (.std c h (encDs dl)), .d wi.enc] vs) I1 ⟨A1, B1, sr, fun vs H2 e2 s2 q2 => ⟨e2, s2, q2⟩⟩) fun us s3 ⟨vs, H2, I2, r, e2, sr2, q2⟩ => ⟨⟨_, _, _, _, keep _ _ _ _ I2⟩, ?_⟩)
  obtain ⟨v1, v2, rfl, q3, q4⟩ := RRs.two q2
  obtain ⟨u1, u2, rfl⟩ : ∃ u1 u2, us = [u1, u2] := by
    have := r.length
    match us, this with
    | [u1, u2], _ => exact ⟨u1, u2, rfl⟩
  have hr' : Room (kk + 1) X.A := by subst hX; exact hr
  have hco2 : H2 F.c = some (LamX.CodeO F.c F.qual) := e2.out' _ _ (fun z => nA (.inl z)) (.inr nt) hco
  have hP : X.prog = P ∧ X.w = w ∧ X.K = K ∧ X.mg = mg ∧ X.base = base := by subst hX; exact ⟨rfl, rfl, rfl, rfl, rfl⟩
  have E0' := I2.env0
  rw [hP.1, hP.2.1, hP.2.2.1, hP.2.2.2.1, hP.2.2.2.2] at E0'
  have rc := run_lam (Q := fun v H3 => Same H2 H3 ∧ v = .bl (letsB k c (h + more wi) (bh h dl wi))) S hr' E0' (keep _ _ _ _ I2) hco2 (hb u1 u2 pm ctv) (cells_un hC (un _ _ _ _ I2)) r (by rw [hp2]; rfl) (fun hr2 => ?_)
  · show wpAny _ _ (call (.ref f) [u1, u2]) _ _ _
    refine wpAny_call (codeAny_mono (by rw [hP.1, hP.2.1]; exact rc) fun r3 s4 hq => ?_)
    have fin : ∀ {u : Value} {s4 : Shared}, CE X.stack P w H2 s3 (fun v H3 => Same H2 H3 ∧ v = .bl (letsB k c (h + more wi) (bh h dl wi))) u s4 → EP X pins σ Q u s4 := fun {u s4} z => by
      rw [← hP.1, ← hP.2.1] at z
      obtain ⟨v, H3, I3, rv, sm, ev⟩ := I2.after z
      subst ev
      exact ⟨_, H3, I3, rv, kk1 _ H3 (e2.trans (Same.ext sm)) (sr2.same sm) rfl⟩
    cases r3 with
    | error er => exact (show False from hq).elim
    | ok fl =>
      cases fl with
      | ret u => exact fin hq
      | next => exact False.elim hq
      | brk => exact False.elim hq
      | cont => exact False.elim hq
  · obtain ⟨δ', hx⟩ := says f X.A X.stack s3 H2 b c h dl wi hr2 ok okw
    refine ⟨_, hx, ?_⟩
    rw [startF_ints]
    refine ⟨fun _ => False, ⟨fun _ => False, fun _ => False, []⟩, start_sr Tbs.nil (by simp) (fun a z => by rcases z with (z | z) | z <;> exact z.elim) (fun i t v e ev => ?_) (fun i j t t' l e _ a => ?_), fun v H3 ex _ q => ?_⟩
    · match i with
      | 0 =>
        cases e; cases ev
        exact Rep.anti (fun a z => by rcases z with (z | z) | z <;> exact z.elim) _ _ q3
      | 1 =>
        cases e; cases ev
        exact Rep.anti (fun a z => by rcases z with (z | z) | z <;> exact z.elim) _ _ q4
      | i + 2 =>
        have e' : (ks.map fun i => Slot.im (.int i))[i]? = some t := by simpa using e
        have ev' : (ks.map V.int)[i]? = some v := by simpa using ev
        rw [List.getElem?_map] at e' ev'
        cases q : ks[i]? with
        | none => rw [q] at e'; cases e'
        | some n =>
          rw [q] at e' ev'
          cases e'; cases ev'
          rfl
    · match i with
      | 0 => cases e; cases a
      | 1 => cases e; cases a
      | i + 2 =>
        have e' : (ks.map fun i => Slot.im (.int i))[i]? = some t := by simpa using e
        obtain ⟨n, _, rfl⟩ := List.mem_map.mp (List.mem_of_getElem? e')
        cases a
    · exact ⟨fun a o z => ex.out' a o (fun y => y.elim id id) (.inl rfl) z, q⟩
end
section
variable {X : Cx} {CS : Addr} {sc : Scope} {N : List Str} {vs ls : List Nat} {gs : List Str}
/-- a lambda just made is pinned -/
theorem lam_pin {T : List (Addr × Str)} {pins : List (Addr × Obj)} {σ : L2.St} {H H1 : Hp} {F : NdefX.NF} {e : Expr} {f : Addr} {pm ctv : Value} {s1 : Shared} (L : LamN X T pins σ H F e f pm ctv H1 s1) : Inv X ((f, lamObj F e pm ctv) :: pins) σ H1 s1 := by
  have I := L.inv
  refine I.pins_of fun p hp => ?_
  rcases List.mem_cons.mp hp with z | z
  · subst z
    refine ⟨L.ob, L.fr, fun q => ?_, fun q => ?_, fun v q => by cases q⟩
    · obtain ⟨m, ⟨o, es, ep, ho, hd, _⟩, _⟩ := I.loc
      have hf : f = X.env.locals := q
      rw [← hf, L.ob] at ho
      cases ho
      cases hd
    · have nf := L.nf
      rcases I.ok.stk with y | ⟨y, hfr⟩
      · rw [y] at nf; exact nf q
      · rw [y] at nf
        unfold frs at nf
        rw [List.filterMap_cons, hfr] at nf
        exact nf (List.mem_cons_of_mem _ q)
  · exact I.pin p (List.mem_append_right _ z)
theorem slots_at {A : AP1} {B : Bo} {σ : L2.St} {H : Hp} {δ : Sto} (sr : SR CS A B σ H δ) : ∀ {js : List Nat} {ks : List Int}, js.map (fun j => δ[j]?) = ks.map (fun n => some (some (Slot.im (.int n)))) → js.map (NdefX.slotAt σ) = ks.map fun n => some (V.int n)
  | [], [], _ => rfl
  | [], _ :: _, h => by simp at h
  | _ :: _, [], h => by simp at h
  | j :: js, n :: ks, h => by
    have h' := List.cons.inj h
    obtain ⟨v, e1, e2⟩ := sr.sl j _ h'.1
    have e3 : v = .int n := e2
    subst e3
    rw [List.map_cons, List.map_cons, slots_at sr h'.2, NdefX.slotAt_of e1]
/-- watched(lambda .., standing, wishes) -/
theorem xe_watched {T : List (Addr × Str)} {c P : Addr} {params : Arguments} {e e2 e3 : Expr} {scope : Scope} {lpos p pos : Pos} {δ : Sto} {rs : List Res} {it jw : Nat} {Nl ps fr : List Str} {js : List Nat} {ks : List Int} {kd b cc h : Int} {dl : List Deed} {ws : List Wish} {W : D}
    (C : Ctx X sc N vs ls gs) (hjw : gs[jw]? = some ("watched" : Str)) (Dw : Df X.K X.mg "watched" s_watched) (hr : Room 12 X.A)
    (m1 : CstS X.mg "SAME" "") (m2 : CstS X.mg "SHY" "shy") (m3 : CstS X.mg "FREE" "free")
    (c_check_easy : CalX X 6 "check_easy" (spD CS R_check_easy)) (c_is_listed : CalX X 1 "is_listed" (spD CS R_is_listed)) (c_is_wish : CalX X 5 "is_wish" (spD CS R_is_wish)) (c_let_by : CalX X 11 "let_by" (spD CS R_let_by)) (c_behind_of : CalX X 10 "behind_of" (spD CS R_behind_of))
    (hT : δ[it]? = some (some (.tb T))) (hTne : T ≠ []) (TB : LamX.TabB X.base X.mg c P) (hcode : X.env.code = .ref c) (hmT : (P, X.env.qual ++ "<lambda>") ∈ T) (hu : ∀ p ∈ T, p.1 = P → p.2 = X.env.qual ++ "<lambda>") (hd : defaultsOf params X.env = ([], []))
    (hfree : ∀ y ∈ scope.names, y.2 = .free → X.env.scope.names.lookup y.1 = some .cell ∨ X.env.scope.names.lookup y.1 = some .free) (hfr : ∀ y ∈ fr, (y, NameKind.free) ∈ scope.names) (hjs : js.map (fun j => X.N[j]?) = fr.map some) (hks : js.map (fun j => δ[j]?) = ks.map (fun n => some (some (Slot.im (.int n)))))
    (S : NdefX.NScope Nl ps fr scope) (hp2 : ps.length = 2) (hb : ∀ (cl : List (Str × Addr)) (q : Str) (cv a b pm ctv : Value), bindArgs (PySem.W.kla_fn "<lambda>" q params e scope cl pm cv ctv) ⟨[a, b], []⟩ = pure (ps.zip [a, b]))
    (says : ∀ c', LamSays X.prog X.w X.K X.mg X.base CS 8 Nl ks (lamF X params scope c') e kd)
    (ha : XA X CS [e2, e3] δ rs δ) (hrs : ArgC δ rs [.std cc h (encDs dl), W]) (hW : W = .lst (ws.map Wish.enc) ∨ W = .tup (ws.map Wish.enc)) (ok : Ok b h dl) (hf : fineB cc h dl = true) (ch : Chain kd cc b h dl ws) (hb1 : b ≤ 1000) (hl : ws.length ≤ 100)
    (he : starEach (.Lambda params e scope lpos :: [e2, e3]) X.env = (false, eval (.Lambda params e scope lpos) X.env) :: starEach [e2, e3] X.env := by rfl) (hpl : (backTo pos (starEach [e2, e3] X.env)).any (·.1) = false := by rfl) :
    XE X CS (.Call (.Name "watched" p) (.Lambda params e scope lpos :: [e2, e3]) [] pos) δ (.n (.lst ((watF kd cc h dl ws).map Told.enc))) δ := by
  obtain ⟨g, fd, Fw, hmg⟩ := Dw.ex
  obtain ⟨oc, od, kV, doc, pmg, an, cdv, ct, osl, rfl, lk, hcd⟩ := Fw.ex
  have bw := Fw.binds (ps := ["keeper", "standing", "wishes"]) fun _ _ _ _ _ _ us hl => match us, hl with | [_, _, _], _ => rfl
  obtain ⟨g1, g2⟩ := C.gl jw _ hjw
  refine ⟨fun pins s σ H Q I ⟨A, B, sr, kk⟩ => ?_⟩
  have hBt : B.t = T := by
    obtain ⟨_, _, z⟩ := sr.sl it _ hT
    exact z
  have hBne : B.t ≠ [] := by rw [hBt]; exact hTne
  have hTb : LamX.Tabs T H := by
    have := sr.tabs.tb
    rw [hBt] at this
    exact this
  have hfree2 : ∀ y ∈ scope.names, y.2 = .free → ∃ c, X.env.cells.lookup y.1 = some c := fun y hy z => (hfree y hy z).elim (fun q => I.ok.has _ (.inl q)) fun q => I.ok.has _ (.inr q)
  refine wpAny_Call_Name_kw (ld_glob I g1 hmg ?_ g2)
  refine PySem.W.callWith_K (h₀ := X.base) I.ok.mod.kin Fw.kp ?_ he hpl
  rw [he]
  refine Calls.spliced_cons (lam_mk3 I TB hcode hTb hmT hu hd hfree2 fun f c' pm ctv H1 s1 L => ?_)
  have I1 := lam_pin L
  have sr1 : SR CS A B σ H1 δ := sr.extN L.ex (by rw [hBt]; exact L.ts)
  have e1 : Ext A B H A H1 := ext_extN hBne L.ex L.th
  refine thn (ha.run pos _ s1 σ H1 (fun vs H2 => Ext A B H1 A H2 ∧ SR CS A B σ H2 δ ∧ RRs CS A B H1 H2 rs vs) I1 ⟨A, B, sr1, fun vs H2 x2 s2 q2 => ⟨x2, s2, q2⟩⟩) fun us s2 ⟨vs2, H2, I2, r, x2, sr2, q2⟩ => ⟨I2.kIn, ?_⟩
  have pn := I2.pin (f, lamObj (lamF X params scope c') e pm ctv) (List.mem_append_right _ List.mem_cons_self)
  have hco2 : H2 c' = some (LamX.CodeO c' (X.env.qual ++ "<lambda>")) := x2.out' _ _ (fun z => sr1.tabs.nc hBne c' _ L.co (.inl z)) (.inr LamX.codeO_ne) L.co
  have hC := NdefX.cells_of I2 (NdefX.Caps.made I2.ok hfree hfr hjs)
  rw [slots_at sr2 hks] at hC
  have hargs : Reps CS H2 (fun _ => False) [.std cc h (encDs dl), W] vs2 := ArgC.at (fun a z => z.elim) (fun i l ds' _ z => z) (fun a z => sr1.tracked z) sr2 hrs q2
  obtain ⟨v1, t1, rfl, a1, v2, t2, rfl, a2, a3⟩ := hargs
  have ht2 : t2 = [] := a3
  subst ht2
  obtain ⟨u1, u2, rfl⟩ : ∃ u1 u2, us = [u1, u2] := by
    have := r.length
    match us, this with
    | [u1, u2], _ => exact ⟨u1, u2, rfl⟩
  have rc := LamX.run_ofS (N := N_watched) (ps := ["keeper", "standing", "wishes"]) (CX := C8.CX0) (E := C8.E0) (us := [.ref f, u1, u2]) (vs := [.ref f, v1, v2]) (Q := fun v H3 => Same H2 H3 ∧ Rep CS H3 (fun a => H2 a ≠ none) (.lst ((watF kd cc h dl ws).map Told.enc)) v) lk hcd sc_watched hr I2.env0 (bw s2 [.ref f, u1, u2] I2.kIn rfl) (.cons rfl r) rfl (fun hr' => ?_)
  · show wpAny _ _ (call (.ref g) [.ref f, u1, u2]) _ _ _
    refine wpAny_call (codeAny_mono rc fun r3 s4 hq => ?_)
    have fin : ∀ {u : Value} {s4 : Shared}, CE X.stack X.prog X.w H2 s2 (fun v H3 => Same H2 H3 ∧ Rep CS H3 (fun a => H2 a ≠ none) (.lst ((watF kd cc h dl ws).map Told.enc)) v) u s4 → EP X pins σ Q u s4 := fun {u s4} z => by
      obtain ⟨v, H3, I3, rv, sm, rp⟩ := I2.after z
      have I4 : Inv X pins σ H3 s4 := I3.pins_of fun p hp => I3.pin p (List.mem_append_right _ (List.mem_cons_of_mem _ hp))
      exact ⟨v, H3, I4, rv, kk v H3 ((e1.trans x2).trans (Same.ext sm)) (sr2.same sm) (Rep.anti (fun a z => (e1.trans x2).there a z) _ v rp)⟩
    cases r3 with
    | error er => exact (show False from hq).elim
    | ok fl =>
      cases fl with
      | ret u => exact fin hq
      | next => exact False.elim hq
      | brk => exact False.elim hq
      | cont => exact False.elim hq
  · have hY : ∀ Y, Y = (cxOf C8.CX0 X.prog X.w X.K X.mg X.base N_watched "watched" (defScope s_watched) g cdv X.A X.stack s2 H2 C8.E0).nox → XSs Y CS (defBody s_watched) (startD N_watched [.im (.obj f c' (LamX.CodeO c' (X.env.qual ++ "<lambda>"))), .im (.std cc h (encDs dl)), .im W]) (Pr (.lst ((watF kd cc h dl ws).map Told.enc))) := fun Y hY => by
      have CY : Ctx Y (defScope s_watched) N_watched V_watched V_watched G_watched := by
        subst hY
        exact Ctx.body ok_watched sc_watched.nd C.glb
      have hk := keep_of (X := Y) (kk := 8) (ks := ks) (k := kd) (CS := CS) hY CY rfl rfl (hr'.mono (by decide)) (says c') S hp2 (fun a b pm ctv => hb _ _ _ a b pm ctv) pn.1 pn.2.1 (fun z => ?_) hC
      · subst hY
        exact b_watched CY hr' m1 m2 m3 c_check_easy c_is_listed c_is_wish c_let_by c_behind_of hk hW ok hf ch hb1 hl
      · rcases List.mem_cons.mp (I2.stkSub f z) with y | y
        · exact pn.2.2.1 y
        · exact pn.2.2.2.1 y
    refine ⟨_, (hY _ rfl).nox, fun _ => False, ⟨fun _ => False, fun _ => False, []⟩, start_sr Tbs.nil rfl (fun a z => by rcases z with (z | z) | z <;> exact z.elim) (fun i t v ei ev => ?_) (fun i j t t' l ei _ a => ?_), (fun σ' H' A' δ' z => by cases z), fun σ' H' A' δ' d v z ex _ rp => ?_, fun _ _ _ _ z => z.elim, fun _ _ _ _ z => z.elim⟩
    · match i with
      | 0 =>
        cases ei; cases ev
        exact ⟨rfl, fun z => by rcases z with (z | z) | z <;> exact z, LamX.codeO_ne, hco2⟩
      | 1 =>
        cases ei; cases ev
        exact Rep.anti (fun a z => by rcases z with (z | z) | z <;> exact z) _ _ a1
      | 2 =>
        cases ei; cases ev
        exact Rep.anti (fun a z => by rcases z with (z | z) | z <;> exact z) _ _ a2
      | i + 3 => simp at ei
    · match i with
      | 0 => cases ei; cases a
      | 1 => cases ei; cases a
      | 2 => cases ei; cases a
      | i + 3 => simp at ei
    · have ed : d = _ := z
      subst ed
      exact ⟨fun a o y => ex.out' a o (fun q => q.elim id id) (.inl rfl) y, Rep.anti (fun a y => ⟨y, fun q => q⟩) _ v rp⟩
end
end K06
/-! K17: == and != of lists of the same data. -/
namespace K06
open PySem PySem.Spec L2
mutual
def QD : D → Bool
  | .non => true
  | .bl _ => true
  | .int _ => true
  | .str _ => true
  | .tup ds => QDs ds
  | .lst ds => QDs ds
  | .std _ _ _ => false
  | .adr _ => false
  | .ty _ => false
  | .obj _ _ _ => false
def QDs : List D → Bool
  | [] => true
  | d :: ds => QD d && QDs ds
end
mutual
def dpD : D → Nat
  | .non => 0
  | .bl _ => 0
  | .int _ => 0
  | .str _ => 0
  | .tup ds => dpDs ds + 1
  | .lst ds => dpDs ds + 1
  | .std _ _ _ => 0
  | .adr _ => 0
  | .ty _ => 0
  | .obj _ _ _ => 0
def dpDs : List D → Nat
  | [] => 0
  | d :: ds => max (dpD d) (dpDs ds)
end
section
variable {P : Program} {w : World} {CS : Addr} {H : Hp} {s : Shared} {A1 A2 : AP1}
theorem all_tt (n : Nat) : ((List.range n).all fun _ => true) = true := List.all_eq_true.mpr fun _ _ => rfl
mutual
theorem eq_same (ok : HOk P w H s.heap) : ∀ (d : D) (A : Around) (v1 v2 : V) (u1 u2 : Value), QD d = true → A.units + dpD d < cLine → Rep CS H A1 d v1 → Rep CS H A2 d v2 → RelV v1 u1 → RelV v2 u2 → SeqAt.EqAt A s u1 u2 true
  | .non, A, v1, v2, u1, u2, _, _, r1, r2, q1, q2 => by
    have e1 : v1 = .non := r1
    have e2 : v2 = .non := r2
    subst e1; subst e2
    have f1 : u1 = Value.none := q1
    have f2 : u2 = Value.none := q2
    subst f1; subst f2
    exact SeqAt.EqAt.same _
  | .bl b, A, v1, v2, u1, u2, _, _, r1, r2, q1, q2 => by
    have e1 : v1 = .bl b := r1
    have e2 : v2 = .bl b := r2
    subst e1; subst e2
    have f1 : u1 = Value.bool b := q1
    have f2 : u2 = Value.bool b := q2
    subst f1; subst f2
    exact SeqAt.EqAt.same _
  | .int i, A, v1, v2, u1, u2, _, _, r1, r2, q1, q2 => by
    have e1 : v1 = .int i := r1
    have e2 : v2 = .int i := r2
    subst e1; subst e2
    obtain ⟨t, rfl⟩ := q1
    obtain ⟨t2, rfl⟩ := q2
    exact (SeqAt.EqAt.int_int i t i t2).cast (by simp)
  | .str x, A, v1, v2, u1, u2, _, _, r1, r2, q1, q2 => by
    have e1 : v1 = .str x := r1
    have e2 : v2 = .str x := r2
    subst e1; subst e2
    obtain ⟨t, rfl⟩ := q1
    obtain ⟨t2, rfl⟩ := q2
    exact (SeqAt.EqAt.str_str x t x t2).cast (by simp)
  | .tup ds, A, v1, v2, u1, u2, k, hu, r1, r2, q1, q2 => by
    obtain ⟨a, vs, e1, h1, p1⟩ := r1
    obtain ⟨b, ws, e2, h2, p2⟩ := r2
    subst e1; subst e2
    have f1 : u1 = Value.ref a := q1
    have f2 : u2 = Value.ref b := q2
    subst f1; subst f2
    obtain ⟨_, is, m1, o1, ho1, hc1, n1, hd1⟩ := ok a _ h1
    obtain ⟨_, js, m2, o2, ho2, hc2, n2, hd2⟩ := ok b _ h2
    have hu' : A.units + (dpDs ds + 1) < cLine := hu
    by_cases ab : a = b
    · subst ab
      exact SeqAt.EqAt.same _
    · have hl : is.length = js.length := by rw [← m1.length, ← m2.length, p1.len, p2.len]
      have z := SeqAt.RcAt.tuples (A := A) (s := s) (e := fun _ => true) (l := a) (b := b) ⟨o1, ho1, hc1, n1, hd1⟩ ⟨o2, ho2, hc2, n2, hd2⟩ (by omega) (fun j h3 h4 => by
        have := eq_all ok ds A.in1 vs ws is js k (by show A.units + 1 + dpDs ds < cLine; omega) p1 p2 m1 m2 j (by simpa using h3) (by simpa using h4)
        simpa using this)
      rw [all_tt, List.size_toArray, List.size_toArray, hl] at z
      exact SeqAt.EqAt.of_refs ab (by simpa using z)
  | .lst ds, A, v1, v2, u1, u2, k, hu, r1, r2, q1, q2 => by
    obtain ⟨a, vs, e1, _, h1, p1⟩ := r1
    obtain ⟨b, ws, e2, _, h2, p2⟩ := r2
    subst e1; subst e2
    have f1 : u1 = Value.ref a := q1
    have f2 : u2 = Value.ref b := q2
    subst f1; subst f2
    obtain ⟨_, is, n1, m1, ho1⟩ := ok a _ h1
    obtain ⟨_, js, n2, m2, ho2⟩ := ok b _ h2
    have hu' : A.units + (dpDs ds + 1) < cLine := hu
    by_cases ab : a = b
    · subst ab
      exact SeqAt.EqAt.same _
    · have hl : is.length = js.length := by rw [← m1.length, ← m2.length, p1.len, p2.len]
      have z := SeqAt.RcAt.lists (A := A) (s := s) (e := fun _ => true) (l := a) (b := b) ⟨_, ho1, rfl, n1, rfl⟩ ⟨_, ho2, rfl, n2, rfl⟩ (by simpa using hl) (by omega) (fun j h3 h4 => by
        have := eq_all ok ds A.in1 vs ws is js k (by show A.units + 1 + dpDs ds < cLine; omega) p1 p2 m1 m2 j (by simpa using h3) (by simpa using h4)
        simpa using this)
      rw [all_tt] at z
      exact SeqAt.EqAt.of_refs ab z
  | .std _ _ _, _, _, _, _, _, k, _, _, _, _, _ => by cases k
  | .adr _, _, _, _, _, _, k, _, _, _, _, _ => by cases k
  | .ty _, _, _, _, _, _, k, _, _, _, _, _ => by cases k
  | .obj _ _ _, _, _, _, _, _, k, _, _, _, _, _ => by cases k
theorem eq_all (ok : HOk P w H s.heap) : ∀ (ds : List D) (A : Around) (vs ws : List V) (us xs : List Value), QDs ds = true → A.units + dpDs ds < cLine → Reps CS H A1 ds vs → Reps CS H A2 ds ws → Vals vs us → Vals ws xs → ∀ j (h1 : j < us.length) (h2 : j < xs.length), SeqAt.EqAt A s us[j] xs[j] true
  | [], A, vs, ws, us, xs, _, _, r1, r2, q1, q2, j, h1, h2 => by
    have e1 : vs = [] := r1
    subst e1
    cases q1
    exact absurd h1 (Nat.not_lt_zero j)
  | d :: ds, A, vs, ws, us, xs, k, hu, r1, r2, q1, q2, j, h1, h2 => by
    obtain ⟨v, vr, e1, a1, b1⟩ := r1
    obtain ⟨v2, vr2, e2, a2, b2⟩ := r2
    subst e1; subst e2
    have k2 : QD d = true ∧ QDs ds = true := by simpa [QDs] using k
    have hu2 : A.units + max (dpD d) (dpDs ds) < cLine := hu
    cases q1 with
    | cons c1 d1 =>
      cases q2 with
      | cons c2 d2 =>
        cases j with
        | zero => exact eq_same ok d A v v2 _ _ k2.1 (by omega) a1 a2 c1 c2
        | succ j => exact eq_all ok ds A vr vr2 _ _ k2.2 (by omega) b1 b2 d1 d2 j (Nat.lt_of_succ_lt_succ h1) (Nat.lt_of_succ_lt_succ h2)
end
end
/-- two lists of the same data -/
def rSame (b : Bool) : R2 := fun x y H Q => ∃ (CS : Addr) (A1 A2 : AP1) (ds : List D) (p q : Addr) (xs ys : List V), x = .ref p ∧ y = .ref q ∧ H p = some (.lst xs) ∧ H q = some (.lst ys) ∧ Reps CS H A1 ds xs ∧ Reps CS H A2 ds ys ∧ QDs ds = true ∧ dpDs ds ≤ 40 ∧ Q (.bl b) H
section
variable {X : Cx} {CS : Addr} {sc : Scope} {N : List Str} {vs ls : List Nat} {gs : List Str}
theorem op_same (hu : X.A.units + 64 < cLine) : OpR X (compareOp .Eq) (rSame true) := by
  intro pins s σ H x y v u Q I rx ry ⟨CS, A1, A2, ds, p, q, xs, ys, ex, ey, h1, h2, p1, p2, k, hd, hq⟩
  subst ex; subst ey
  have f1 : v = Value.ref p := rx
  have f2 : u = Value.ref q := ry
  subst f1; subst f2
  obtain ⟨_, is, n1, m1, ho1⟩ := I.hok p _ h1
  obtain ⟨_, js, n2, m2, ho2⟩ := I.hok q _ h2
  have hl : is.length = js.length := by rw [← m1.length, ← m2.length, p1.len, p2.len]
  refine SeqAt.RcAt.lists (A := X.A) (s := s) (e := fun _ => true) ⟨_, ho1, rfl, n1, rfl⟩ ⟨_, ho2, rfl, n2, rfl⟩ (by simpa using hl) (by omega) (fun j h3 h4 => ?_) X.prog X.w _ _ ?_
  · have := eq_all I.hok ds X.A.in1 xs ys is js k (by show X.A.units + 1 + dpDs ds < cLine; omega) p1 p2 m1 m2 j (by simpa using h3) (by simpa using h4)
    simpa using this
  · rw [all_tt]
    exact ⟨.bl true, H, I, rfl, hq⟩
theorem op_nsame (hu : X.A.units + 64 < cLine) : OpR X (compareOp .NotEq) (rSame false) := by
  intro pins s σ H x y v u Q I rx ry ⟨CS, A1, A2, ds, p, q, xs, ys, ex, ey, h1, h2, p1, p2, k, hd, hq⟩
  subst ex; subst ey
  have f1 : v = Value.ref p := rx
  have f2 : u = Value.ref q := ry
  subst f1; subst f2
  obtain ⟨_, is, n1, m1, ho1⟩ := I.hok p _ h1
  obtain ⟨_, js, n2, m2, ho2⟩ := I.hok q _ h2
  have hl : is.length = js.length := by rw [← m1.length, ← m2.length, p1.len, p2.len]
  refine SeqAt.RcNeAt.lists (A := X.A) (s := s) (e := fun _ => true) ⟨_, ho1, rfl, n1, rfl⟩ ⟨_, ho2, rfl, n2, rfl⟩ (by simpa using hl) (by omega) (fun j h3 h4 => ?_) X.prog X.w _ _ ?_
  · have := eq_all I.hok ds X.A.in1 xs ys is js k (by show X.A.units + 1 + dpDs ds < cLine; omega) p1 p2 m1 m2 j (by simpa using h3) (by simpa using h4)
    simpa using this
  · rw [all_tt]
    exact ⟨.bl false, H, I, rfl, hq⟩
variable {a b : Expr} {δ δ1 δ2 : Sto} {r1 r2 : Res} {ds : List D} {pos : Pos} {k : Nat}
theorem opd_same {v : Bool} (h1 : LstC δ2 r1 ds) (h2 : LstC δ2 r2 ds) (q : QDs ds = true) (hd : dpDs ds ≤ 40) : OpD CS (rSame v) δ2 r1 r2 (.d (.bl v)) := fun A B σ H0 H x y Q s t g1 g2 kk => by
  obtain ⟨p, xs, e1, f1, r1'⟩ := h1.at' t s g1
  obtain ⟨p2, ys, e2, f2, r2'⟩ := h2.at' t s g2
  exact ⟨CS, _, _, ds, p, p2, xs, ys, e1, e2, f1, f2, r1', r2', q, hd, kk _ H (Same.refl H) rfl⟩
theorem xe_eqL (hr : Room k X.A) (ha : XE X CS a δ r1 δ1) (hb : XE X CS b δ1 r2 δ2) (h1 : LstC δ2 r1 ds) (h2 : LstC δ2 r2 ds) (q : QDs ds = true) (hd : dpDs ds ≤ 40) (hm : behindInMarks .Eq b = false := by rfl) : XE X CS (.Compare a [.Eq] [b] pos) δ (.d (.bl true)) δ2 :=
  xe_cmp (op_same hr.units) ha hb (opd_same h1 h2 q hd) hm
theorem xt_neL (hr : Room k X.A) (ha : XE X CS a δ r1 δ1) (hb : XE X CS b δ1 r2 δ2) (h1 : LstC δ2 r1 ds) (h2 : LstC δ2 r2 ds) (q : QDs ds = true) (hd : dpDs ds ≤ 40) (hm : behindInMarks .NotEq b = false := by rfl) : XT X CS (.Compare a [.NotEq] [b] pos) δ false δ2 :=
  xt_cmp (op_nsame hr.units) ha hb (opd_same h1 h2 q hd) hm
end
end K06
/-! K18: the script read; a hand made; phantom names; defs whose tables grow. -/
namespace K06
open PySem PySem.Spec L2
section
variable {X : Cx} {CS : Addr} {sc : Scope} {N : List Str} {vs ls : List Nat} {gs : List Str} {tg iter elt e : Expr} {ifs : List Expr} {scope : Scope} {own : List (Str × Nat)} {pos spos p2 p3 : Pos} {δ δ1 : Sto} {ds accF : List D} {rest : List Stmt} {P' : Post} {nm : Str} {p' : Pos}
theorem tLc_and {Ξ : L2.St → Hp → Prop} {wi : TI} {g : TG} {tt : TT} {te : TE} {us : List Nat} {σ : L2.St} {H : Hp} {Q : VK} (h1 : Ξ σ H) (h : tLc wi g tt te us σ H Q) : tLc (fun σ H R => Ξ σ H ∧ wi σ H R) g tt te us σ H Q := ⟨h1, h⟩
/-- y = [elt for tg in iter] on one line, y one's own list; Ξ is true where it begins -/
theorem xss_setLcX (Ξ : L2.St → Hp → Prop) (F : Nat → Option D) (C : Ctx X sc N vs ls gs) (k : Nat) (hik : N[k]? = some nm) (hlk : ls.contains k = true) (hyl : locB sc nm = true) (vs' ls' : List Nat) (gs' : List Str) (hi : PI X tg iter (fun σ H R => Ξ σ H ∧ iX CS δ ds δ σ H R)) (ok : blkC N sc scope own = true) (hbk : bkOk N vs' ls' gs' scope = true) (hl : LFs ds = true) (hn : ds.length ≤ 1000)
    (hs : ∀ (i : Nat) (d : D), ds[i]? = some d → PcT X CS N vs' ls' gs' scope tg elt ifs (own.map (·.2)) (forget (own.map (·.2)) δ) d (F i)) (hF : (List.range ds.length).filterMap F = accF) (lfF : LFs accF = true)
    (hkind : sc.kind = .function) (hline : (p'.line == pos.line) = true) (hnm : (scope.names.any fun (n, k) => n == nm && (k == .local || k == .cell)) = false) (cg : Cng δ (forget (own.map (·.2)) δ))
    (hlen : k < (forget (own.map (·.2)) δ).length) (h2 : ∀ l, XSs X CS rest ((forget (own.map (·.2)) δ).set k (some (.ml l accF))) P')
    (hfs : ∀ x, foldedSetIterable iter X.env x = pure x := by intro _; rfl) : PSs X (.Assign [.Name nm p'] (.ListComp elt [⟨tg, iter, ifs, 0⟩] scope pos) spos :: rest) (fun D σ H => Ξ σ H ∧ tS CS δ P' D σ H) := by
  have hB : ∀ (s : Shared) (H : Hp) (C : Addr) (cl : List (Str × Addr)) (fp : List Addr), Blk X scope (X.blk s H scope (compEnvC scope cl C X.env) fp) := fun s H C cl fp => ⟨s, H, C, cl, fp, rfl⟩
  have hloc : X.env.scope.names.lookup nm = some .local := by
    rw [C.hsc]
    unfold locB at hyl
    cases q : sc.names.lookup nm with
    | none => rw [q] at hyl; simp at hyl
    | some k => rw [q] at hyl; cases k <;> simp_all
  refine pss_weak (pss_cons (ps_setLc (i := k) (g := fun v σ H Q => ∃ q : LcK, (∀ Y, Blk X scope Y → XG Y CS tg q.us q.d q.δ q.δ2) ∧ gX CS q.us q.d q.δ q.δ2 v σ H Q) (tt := fun σ H Q => ∃ q : Sto × Bool × Sto, (∀ Y, Blk X scope Y → XTs Y CS ifs q.1 q.2.1 q.2.2) ∧ tT CS q.1 q.2.1 q.2.2 σ H Q)
    (te := fun σ H Q => ∃ q : Sto × D × Sto, (∀ Y, Blk X scope Y → XE Y CS elt q.1 (.d q.2.1) q.2.2) ∧ tE CS q.1 (.d q.2.1) q.2.2 σ H Q) C.calm (by rw [C.hN]; exact C.nd) (by rw [C.hN]; exact hik) hloc (used_swapsL (by rw [C.hsc]; exact hkind) hloc hline hnm) hi (by rw [C.hN, C.hsc]; exact blkOk_by ok)
    (fun s H Ca cl fp => ⟨fun pins s' σ H' v u Q I r ⟨q, h1, h2⟩ => (h1 _ (hB s H Ca cl fp)).run pins s' σ H' v u Q I r h2⟩) (fun s H Ca cl fp => ⟨fun pins s' σ H' Q I ⟨q, h1, h2⟩ => (h1 _ (hB s H Ca cl fp)).run pins s' σ H' Q I h2⟩)
    (fun s H Ca cl fp => ⟨fun pins s' σ H' Q I ⟨q, h1, h2⟩ => (h1 _ (hB s H Ca cl fp)).run pins s' σ H' Q I h2⟩) hfs) (pss_ex (ι := Addr) (p := fun _ => True) fun l _ => h2 l)) fun D σ H ⟨hΞ, A, B, s, kk⟩ => ?_
  unfold tSeq tAsg gName
  dsimp only
  refine tLc_and (Ξ := Ξ) hΞ (lc_read (accF := accF) (δF := forget (own.map (·.2)) δ) hl hn (fun i acc δ' => acc = (List.range i).filterMap F ∧ δ' = forget (own.map (·.2)) δ) (own.map (·.2)) ⟨rfl, rfl⟩ _ _ _ (fun i d acc δ' hd hI => ?_) (fun acc δ' h => ⟨h.1.trans hF, h.2⟩) lfF σ H _ ⟨A, B, s, fun v H1 e1 s1 q1 => ?_⟩)
  · obtain ⟨rfl, rfl⟩ := hI
    obtain ⟨us, δ2, b, q0, q1, q2, q3, q4, q5⟩ := (hs i d hd).ex
    refine ⟨us, δ2, b, δ2, fun j hj => List.contains_iff_mem.mp (List.all_eq_true.mp q0 j hj), fun v σ H Q z => ⟨⟨us, d, _, δ2⟩, fun Y hY => q1 Y hY (C.blk hY hbk), z⟩, fun σ H Q z => ⟨(δ2, b, δ2), fun Y hY => q2 Y hY (C.blk hY hbk), z⟩, fun hb => ?_, fun hb => ⟨?_, q5⟩⟩
    · obtain ⟨x, ex, q6, lx⟩ := q3 hb
      refine ⟨x, δ2, fun σ H Q z => ⟨(δ2, x, δ2), fun Y hY => q6 Y hY (C.blk hY hbk), z⟩, lx, ?_, q5⟩
      rw [List.range_succ, List.filterMap_append]
      simp [ex]
    · rw [List.range_succ, List.filterMap_append]
      simp [q4 hb]
  · obtain ⟨l, us, ev, nl, h1, h3⟩ := q1
    subst ev
    have hH : H l = none := by
      cases q : H l with
      | none => rfl
      | some o => exact absurd (show H l ≠ none by rw [q]; simp) nl
    obtain ⟨x1, x2⟩ := SR.bind (t := .ml l accF) s s1 e1 cg hH (by rw [h1]; trivial) hlen rfl ⟨rfl, .inr rfl, lfF, us, h1, Reps.lf _ _ lfF h3⟩
    exact ⟨l, trivial, tS_step (P := P') x1 x2 kk⟩
/-- the script's first so many -/
theorem xi_scr {ns : List Int} {m : Nat} {j : Nat} (C : Ctx X sc N vs ls gs) (k : Nat) (hi : N[k]? = some nm) (hv : vs.contains k = true) (hm : ns.length ≤ m) : PI X tg (.Subscript (.Name nm p2) (.Slice none (some (.Constant (.int (m : Nat)) j p3)) none p') pos)
    (fun σ H R => (∃ a, σ[k]? = some (some (V.ref a)) ∧ SqL X.K H a (ns.map V.int)) ∧ iX CS δ (ns.map D.int) δ σ H R) := by
  obtain ⟨h1, h2, h3⟩ := C.vis k nm hv hi
  refine pi_weak (pi_list (pe_slice sl_list (pe_var (i := k) (by rw [C.hN]; exact hi) h1 h2 h3) po_none (po_some pe_int))) fun σ H R ⟨⟨a, e1, hS⟩, A, B, s, kk⟩ => ?_
  refine ⟨.ref a, e1, _, rfl, a, ns.map V.int, rfl, hS, fun p hp => ?_⟩
  have hcut : cutD (ns.map D.int) none (some ((m : Nat) : Int)) = ns.map D.int := by
    unfold cutD
    have a1 : HT.sIx (ns.map D.int).length 0 none = 0 := rfl
    have a2 : HT.sIx (ns.map D.int).length (ns.map D.int).length (some ((m : Nat) : Int)) = ns.length := by
      unfold HT.sIx
      simp only [List.length_map]
      rw [if_neg (by omega)]
      omega
    rw [a1, a2, List.drop_zero]
    exact List.take_of_length_le (by rw [List.length_map]; omega)
  have sm : Same H (upd H p (.lst (cutV (ns.map V.int) none (some ((m : Nat) : Int))))) := same_new hp
  have hr : Reps CS (upd H p (.lst (cutV (ns.map V.int) none (some ((m : Nat) : Int))))) (Un2 A B) (ns.map D.int) (cutV (ns.map V.int) none (some ((m : Nat) : Int))) := by
    have := (Reps.of_ints (CS := CS) (H := upd H p (.lst (cutV (ns.map V.int) none (some ((m : Nat) : Int))))) (A := Un2 A B) ns).cut (lo := none) (hi := some ((m : Nat) : Int))
    rwa [hcut] at this
  exact ⟨p, rfl, ⟨_, SqL.of upd_same⟩, kk _ _ (Same.ext sm) (s.same sm) (walkD_list (s.fresh hp) upd_same hr)⟩
/-- return [l, ..], l one's own list -/
theorem xss_retl {l : Addr} {k1 : Nat} {ds1 ds2 : List D} {es : List Expr} (h : XA X CS es δ (.m l :: ResDs ds2) δ1) (hk1 : δ1[k1]? = some (some (.ml l ds1))) (hp : P'.rt δ1 (.lst (.lst ds1 :: ds2))) (f : LFs ds2 = true) (hz : ds2.length ≤ 100) : XSs X CS (.Return (some (.List es p2)) pos :: rest) δ P' :=
  pss_weak (pss_cons (ps_ret (pe_lst h)) pss_never) fun D σ H ⟨A, B, s, kk⟩ => ⟨A, B, s, fun ws H1 e1 s1 q1 => by
    obtain ⟨v0, w0, ew, q2, q3⟩ := q1
    have hr := RRs.reps q3
    subst ew
    refine ⟨by rw [List.length_cons, hr.len, sizeLine_eq]; omega, fun p hp' => ?_⟩
    have sm : Same H1 (upd H1 p (.lst (v0 :: w0))) := same_new hp'
    obtain ⟨w1, _, ew1, hA1, lf1, us1, h11, h12⟩ := s1.sl k1 _ hk1
    refine kk.2.1 σ _ A δ1 _ _ hp (e1.trans (Same.ext sm)) (s1.same sm) ⟨p, _, rfl, fun z => ?_, upd_same, _, _, rfl, ⟨l, us1, q2, fun z => z.2 hA1, sm _ _ h11, Reps.lf _ _ lf1 (Reps.stay (Same.stay sm) _ _ h12)⟩, Reps.lf _ _ f (Reps.stay (Same.stay sm) _ _ hr)⟩
    exact e1.there p z.1 hp'⟩
end
/-! ### phantom names -/
section
variable {X : Cx} {CS : Addr} {A : AP1} {B : Bo} {σ : L2.St} {H : Hp} {δ : Sto}
theorem ph_inv {pins : List (Addr × Obj)} {s : Shared} {i : Nat} {ph : Str} (I : Inv X pins σ H s) (hN : X.N[i]? = some ph) (hv : ¬ Vis X.env.scope ph) : Inv X pins (σ.set i (some .non)) H s := by
  obtain ⟨m, hn, hl⟩ := I.loc
  refine ⟨I.ok, I.os, I.bare, I.base, ⟨m, hn, fun j x v e1 e2 e3 => ?_⟩, I.cell, I.free, I.freeC, I.pin, I.hok, by rw [List.length_set]; exact I.len⟩
  by_cases z : i = j
  · subst z
    rw [hN] at e1
    cases e1
    exact absurd e3 hv
  · rw [List.getElem?_set, if_neg z] at e2
    exact hl j x v e1 e2 e3
theorem pss_ph {st : List Stmt} {t : TS} {i : Nat} {ph : Str} (h : PSs X st t) (hN : X.N[i]? = some ph) (hv : ¬ Vis X.env.scope ph) : PSs X st (fun D σ H => t D (σ.set i (some .non)) H) :=
  ⟨fun pins s σ H D I q => h.run pins s (σ.set i (some .non)) H D (ph_inv I hN hv) q⟩
theorem SR.setT {i : Nat} {T : List (Addr × Str)} {v : V} (r : SR CS A B σ H δ) (hi : i < δ.length) (h : B.t = T) : SR CS A B (σ.set i (some v)) H (δ.set i (some (.tb T))) := by
  have hs : i < σ.length := by rw [r.len]; exact hi
  have back : ∀ (j : Nat) (s : Slot) (l : Addr), (δ.set i (some (.tb T)))[j]? = some (some s) → s.addr = some l → δ[j]? = some (some s) := fun j s l e a => by
    by_cases hj : i = j
    · subst hj
      rw [List.getElem?_set_self hi] at e
      cases e; cases a
    · rwa [List.getElem?_set_ne hj] at e
  refine ⟨by simp [r.len], r.muts, fun j s e => ?_, fun j k s s' l e1 e2 a1 a2 => r.sep j k s s' l (back j s l e1 a1) (back k s' l e2 a2) a1 a2, r.tabs⟩
  by_cases hj : i = j
  · subst hj
    rw [List.getElem?_set_self hi] at e
    cases e
    exact ⟨v, by rw [List.getElem?_set_self hs], h⟩
  · rw [List.getElem?_set_ne hj] at e
    obtain ⟨u, h1, h2⟩ := r.sl j s e
    exact ⟨u, by rw [List.getElem?_set_ne hj]; exact h1, h2⟩
end
/-! ### defs whose code object is known -/
structure FunC (K : PySem.W.Frag) (x : Str) (st : Stmt) (f : Addr) (fd : FuncData) (c : Addr) : Prop where
  ex : ∃ (oc : Value) (od : Option Addr) (kV doc pm : Value) (an : Option Addr) (ct : Value) (osl : Array (Option Value)),
    fd = PySem.W.fnOf x x (defArgs st) (defBody st) (defScope st) .none kV doc pm an (.ref c) ct ∧ K.lookup f = some ⟨oc, od, .func fd, osl⟩ ∧ PySem.W.codeIn K (.ref c) x = true
  kp : PySem.W.keepIn K (.ref f) = true
end K06
/-! D22: the hand made of the script. -/
namespace K06
open PySem PySem.Spec L2
variable {P : Program} {w : World} {K : PySem.W.Frag} {mg : Str → Option Value} {base : Heap} {CS : Addr} {X : Cx}
def absI (i : Int) : Int := if i < 0 then -i else i
def handD (ns : List Int) : List D := [.lst ((ns.map absI).map D.int), .int 0, .int 0, .int (1 + ns.length), .int 0]
/-- _law_hand's promise -/
def spHand (CS : Addr) (K : PySem.W.Frag) : Sp := fun vs H Q _ => ∃ (a : Addr) (ns : List Int), vs = [.ref a] ∧ SqL K H a (ns.map V.int) ∧ ns.length ≤ 63 ∧ ∀ v H', Same H H' → Rep CS H' (fun a => H a ≠ none) (.lst (handD ns)) v → Q v H'
theorem b_L_hand (C : Ctx X (defScope s_L_hand) N_L_hand V_L_hand V_L_hand G_L_hand) {a : Addr} {ns : List Int} (hlen : ns.length ≤ 63) :
    PSs X (defBody s_L_hand) (fun D σ H => (∃ a, σ[0]? = some (some (V.ref a)) ∧ SqL X.K H a (ns.map V.int)) ∧ tS CS [some (.im (.adr a)), none, none] { nx := fun _ => False, rt := fun _ d => d = .lst (handD ns) } D σ H) := by
  have lf : LFs ((ns.map absI).map D.int) = true := LFs_ints _
  refine xss_setLcX (CS := CS) (δ := [some (.im (.adr a)), none, none]) (own := [("_law_cell", 2)]) (P' := { nx := fun _ => False, rt := fun _ d => d = .lst (handD ns) }) (fun σ H => ∃ a, σ[0]? = some (some (V.ref a)) ∧ SqL X.K H a (ns.map V.int)) (fun i => some (.int (absI (ns.getD i 0)))) (accF := (ns.map absI).map D.int) C 1 rfl rfl (by decide +kernel) [2] [2] ["abs", "int"] (xi_scr (m := 63) C 0 rfl rfl hlen) (by decide +kernel) (by decide +kernel) (LFs_ints ns) (by rw [List.length_map]; omega) (fun i d hd => ?_) ?_ lf rfl rfl (by decide +kernel) Cng.refl (lt_of rfl) (fun l => ?_)
  · rw [List.getElem?_map] at hd
    cases q : ns[i]? with
    | none => rw [q] at hd; cases hd
    | some n =>
      rw [q] at hd
      cases hd
      have e : ns.getD i 0 = n := by rw [List.getD_eq_getElem?_getD, q]; rfl
      exact ⟨_, _, true, rfl, fun Y hB D => (xg_n D 2 rfl rfl (lt_of rfl)), fun Y hB D => xts_nil, fun _ => ⟨.int (absI n), by rw [e], fun Y hB D => xe_i (xe_abs D 0 rfl (xe_int1 D 1 rfl (xe_v D 2 rfl rfl rfl))) rfl, rfl⟩, (by intro z; cases z), rfl⟩
  · rw [List.length_map, fm_some, List.map_map]
    exact range_get _ _ _ fun m x hx => by rw [List.getD_eq_getElem?_getD, hx]; rfl
  · exact xss_retl (k1 := 1) (ds1 := (ns.map absI).map D.int) (ds2 := [.int 0, .int 0, .int (1 + ns.length), .int 0]) (xa_cons (xe_m C 1 rfl rfl rfl rfl) (xa_cons xe_int (xa_cons xe_int (xa_cons (xe_i (xe_add xe_int (xe_len C 0 rfl (xe_m C 1 rfl rfl rfl rfl) (.inl ⟨1, rfl⟩))) (by rw [List.length_map, List.length_map])) (xa_cons xe_int xa_nil))))) rfl rfl rfl (by show 4 ≤ 100; decide)
theorem c_L_hand (Df : Df K mg "_law_hand" s_L_hand) (hg : Glb mg) : CalP P w K mg base 2 "_law_hand" (spHand CS K) := by
  obtain ⟨f, fd, F, hm⟩ := Df.ex
  refine ⟨⟨f, fd, ["_law_script"], F.ok sc_L_hand (fun vs H Q E h => ?_) (fun cdv A outer s H vs Q E hr h => ?_), hm, F.kp, F.binds fun _ _ _ _ _ _ us hl => match us, hl with | [_], _ => rfl⟩⟩
  · obtain ⟨a, ns, rfl, _⟩ := h
    rfl
  · obtain ⟨a, ns, rfl, hS, hlen, hk⟩ := h
    refine ⟨_, b_L_hand (CS := CS) (a := a) (Ctx.body ok_L_hand sc_L_hand.nd hg) hlen, ⟨a, rfl, hS⟩, fun _ => False, ⟨fun _ => False, fun _ => False, []⟩, ?_, fun _ _ _ _ z => z.elim, fun σ' H' A' δ' d v z ex _ rp => ?_, fun _ _ _ _ z => z.elim, fun _ _ _ _ z => z.elim⟩
    · exact start_sr (ss := [.im (.adr a)]) (N := N_L_hand) Tbs.nil rfl (fun a z => by rcases z with (z | z) | z <;> exact z.elim) (fun i t v ei ev => by
        match i with
        | 0 => cases ei; cases ev; exact rfl
        | i + 1 => simp at ei) (fun i j t t' l ei _ a => by
        match i with
        | 0 => cases ei; cases a
        | i + 1 => simp at ei)
    · have ed : d = _ := z
      subst ed
      exact hk v H' (fun a o y => ex.out' a o (fun q => q.elim id id) (.inl rfl) y) (Rep.anti (fun a y => ⟨y, fun q => q⟩) _ v rp)
end K06
/-! M14: the world told by hand; plain Lean. -/
namespace K06
theorem reach_bare {ws : List (List Nat)} {lot : List Nat} (h : ∀ l ∈ ws, l = []) {j : Nat} : Reach ws lot j ↔ j ∈ lot := by
  constructor
  · intro r
    induction r with
    | base h1 => exact h1
    | step _ e m _ =>
      have := h _ (List.mem_of_getElem? e)
      rw [this] at m
      cases m
  · exact .base
theorem clo_bare {ws : List (List Nat)} {lot : List Nat} (h : ∀ l ∈ ws, l = []) (up : lot.Pairwise (· < ·)) (lt : ∀ x ∈ lot, x < ws.length) : clo ws lot = lot := by
  have hw : WfW ws := fun i l e j m => by
    have := h _ (List.mem_of_getElem? e)
    rw [this] at m
    cases m
  refine up_ext (clo_up _ _) up fun k => ?_
  rw [mem_clo hw lt, reach_bare h]
def wA : Wish := .opn 4 4 []
def wB : Wish := .opn 5 3 []
def wC : Wish := .opn 1 0 []
def dA : List Deed := [⟨some 0, 4, []⟩]
def dB : List Deed := [⟨some 0, 4, []⟩, ⟨some 4, 3, []⟩]
theorem bhA : bh 0 [] wA = dA := by decide +kernel
theorem bhB : bh 4 dA wB = dB := by decide +kernel
theorem fineA : fineB 10 4 dA = true := by
  have e : load 4 dA 0 = 8 := by
    rw [load_some (d := ⟨some 0, 4, []⟩) (f := 0) rfl rfl, clo_bare (by decide) (by decide) (by decide)]
    rfl
  show ((List.range 1).map (load 4 dA)).all _ = true
  show (decide (load 4 dA 0 ≤ 10) && true) = true
  rw [e]
  rfl
theorem fineBf : fineB 10 9 dB = false := by
  have e : load 9 dB 0 = 13 := by
    rw [load_some (d := ⟨some 0, 4, []⟩) (f := 0) rfl rfl, clo_bare (by decide) (by decide) (by decide)]
    rfl
  show ((List.range 2).map (load 9 dB)).all _ = false
  show (decide (load 9 dB 0 ≤ 10) && _) = false
  rw [e]
  rfl
theorem tellA : tellW 3 10 0 [] wA = ⟨wA, true, true⟩ := by
  unfold tellW
  have e : (0 : Int) + more wA = 4 := rfl
  rw [bhA, e, fineA]
  rfl
theorem tellB : tellW 3 10 4 dA wB = ⟨wB, true, false⟩ := by
  unfold tellW
  have e : (4 : Int) + more wB = 9 := rfl
  rw [bhB, e, fineBf]
  rfl
theorem watF_cons (k c h : Int) (dl : List Deed) (w : Wish) (ws : List Wish) : watF k c h dl (w :: ws) = if (tellW k c h dl w).free = true then [tellW k c h dl w] else tellW k c h dl w :: watF k c (nextH h (tellW k c h dl w)) (nextD h dl (tellW k c h dl w)) ws := by simp only [watF]
theorem watAB : watF 3 10 0 [] [wA, wB, wC] = [⟨wA, true, true⟩, ⟨wB, true, false⟩] := by
  have e1 : nextH 0 (tellW 3 10 0 [] wA) = 4 := by rw [tellA]; rfl
  have e2 : nextD 0 [] (tellW 3 10 0 [] wA) = dA := by rw [tellA]; exact bhA
  have f1 : (tellW 3 10 0 [] wA).free = false := by rw [tellA]; rfl
  have f2 : (tellW 3 10 4 dA wB).free = true := by rw [tellB]; rfl
  rw [watF_cons, if_neg (by rw [f1]; simp), e1, e2, watF_cons, if_pos f2, tellA, tellB]
theorem ok0 : Ok 10 0 [] := ⟨by decide, by decide, by decide, fun _ h => (by cases h), fun _ h => (by cases h), .nil, fun _ _ e => by simp at e, ⟨fun _ => 0, fun _ _ e => by simp [wts] at e⟩⟩
theorem okwA : OkW 10 [] wA := .opn (by decide) (by decide) (by decide) (by decide) ⟨.nil, fun _ h => (by cases h)⟩ (by decide)
theorem okA : Ok 15 4 dA := by
  have := bh_ok ok0 okwA
  rw [bhA] at this
  exact this
theorem okwB : OkW 15 dA wB := .opn (by decide) (by decide) (by decide) (by decide) ⟨.nil, fun _ h => (by cases h)⟩ (by decide)
theorem okB : Ok 20 9 dB := by
  have := bh_ok okA okwB
  rw [bhB] at this
  exact this
theorem chainAB : Chain 3 10 10 0 [] [wA, wB, wC] := by
  have e1 : nextH 0 (tellW 3 10 0 [] wA) = 4 := by rw [tellA]; rfl
  have e2 : nextD 0 [] (tellW 3 10 0 [] wA) = dA := by rw [tellA]; exact bhA
  have f2 : (tellW 3 10 4 dA wB).free = true := by rw [tellB]; rfl
  refine .cons ok0 okwA fun _ => ?_
  rw [e1, e2]
  exact .cons okA okwB fun z => by rw [f2] at z; cases z
theorem fine0 : fineB 10 0 [] = true := rfl
end K06
/-! D23: the world told by hand. -/
namespace K06
open PySem PySem.Spec L2
variable {P : Program} {w : World} {K : PySem.W.Frag} {mg : Str → Option Value} {base : Heap} {CS : Addr} {X : Cx}
theorem free_by {sc scope : Scope} (h : (scope.names.all fun y => !decide (y.2 = NameKind.free) || decide (sc.names.lookup y.1 = some NameKind.cell) || decide (sc.names.lookup y.1 = some NameKind.free)) = true) : ∀ y ∈ scope.names, y.2 = .free → sc.names.lookup y.1 = some .cell ∨ sc.names.lookup y.1 = some .free := fun y hy e => by
  have := List.all_eq_true.mp h y hy
  simp only [Bool.or_eq_true, Bool.not_eq_true', decide_eq_true_eq, decide_eq_false_iff_not] at this
  rcases this with (z | z) | z
  · exact absurd e z
  · exact .inl z
  · exact .inr z
theorem says_by {kk : Nat} {params : Arguments} {scope : Scope} {e : Expr} {Nl : List Str} {ks : List Int} {k : Int} {c' : Addr} {vs : List Nat} {gs : List Str} (h : scOk Nl vs [] gs scope = true) (nd : Nl.Nodup) (hg : Glb X.mg)
    (hb : ∀ (Y : Cx), CxI X.prog X.w X.K X.mg X.base Y → Ctx Y scope Nl vs [] gs → Room kk Y.A → ∀ (b c h : Int) (dl : List Deed) (wi : Wish), Ok b h dl → OkW b dl wi → ∃ δ', XE Y CS e (startD Nl ([.im (.std c h (encDs dl)), .im wi.enc] ++ ks.map fun i => .im (.int i))) (.n (.bl (letsB k c (h + more wi) (bh h dl wi)))) δ') :
    LamSays X.prog X.w X.K X.mg X.base CS kk Nl ks (lamF X params scope c') e k := by
  intro f A outer s H b c h dl wi hr ok okw
  exact hb (NdefX.ncx C8.CX0 X.prog X.w X.K X.mg X.base Nl (lamF X params scope c') f A outer s H C8.E0).nox ⟨rfl, rfl, rfl, rfl, rfl⟩ (Ctx.lam (F := lamF X params scope c') (by assumption) nd hg) hr b c h dl wi ok okw
abbrev N_bh : List Str := ["_law_standing", "_law_wishes", "_law_told", "#"]
theorem ok_bh : scOk N_bh V_L_by_hand V_L_by_hand G_L_by_hand (defScope s_L_by_hand) = true := by decide +kernel
def toldAB : List D := [.tup [wA.enc, .bl true, .str ""], .tup [wB.enc, .bl true, .str "free"]]
theorem told_eq : (watF 3 10 0 [] [wA, wB, wC]).map Told.enc = toldAB := by
  rw [watAB]
  rfl
theorem b_L_by_hand {T : List (Addr × Str)} {c Pt : Addr} (C : Ctx X (defScope s_L_by_hand) N_bh V_L_by_hand V_L_by_hand G_L_by_hand) (hr : Room 13 X.A) (S : StdC X.K CS) (Dw : Df X.K X.mg "watched" s_watched)
    (m1 : CstS X.mg "SAME" "") (m2 : CstS X.mg "SHY" "shy") (m3 : CstS X.mg "FREE" "free") (c_Standing : MakP X.prog X.w X.K X.mg X.base CS 6 "Standing" R_std)
    (c_check_easy : CalX X 6 "check_easy" (spD CS R_check_easy)) (c_is_listed : CalX X 1 "is_listed" (spD CS R_is_listed)) (c_is_wish : CalX X 5 "is_wish" (spD CS R_is_wish)) (c_let_by : CalX X 11 "let_by" (spD CS R_let_by)) (c_behind_of : CalX X 10 "behind_of" (spD CS R_behind_of))
    (c_L_lets : CalX X 5 "_law_lets" (spD CS R_L_lets)) (c_L_can : CalX X 3 "_law_can" (spD CS R_L_can))
    (hTne : T ≠ []) (TB : LamX.TabB X.base X.mg c Pt) (hcode : X.env.code = .ref c) (hmT : (Pt, X.env.qual ++ "<lambda>") ∈ T) (hu : ∀ p ∈ T, p.1 = Pt → p.2 = X.env.qual ++ "<lambda>") :
    XSs X CS (defBody s_L_by_hand) [none, none, none, some (.tb T)] (Pr (.bl true)) := by
  refine xss_set (x := .std 10 0 (encDs [])) C 0 rfl rfl (xn (xe_make c_Standing (hr.mono (by decide) : Room (11 + 1) X.A) (by decide) C 0 rfl (xa_cons xe_int (xa_cons xe_int (xa_cons (xe_tup (ds := []) xa_nil (le_of rfl)) xa_nil))) ⟨10, [], rfl, ok0, by decide, by decide, by decide, by decide⟩ rfl)) ?_ (lt_of rfl)
  refine xss_set (x := .lst [wA.enc, wB.enc, wC.enc]) C 1 rfl rfl (xn (xe_lst (ds := [_, _, _]) (xa_cons (xe_tup (ds := [_, _, _, _]) (xa_cons xe_str (xa_cons xe_int (xa_cons xe_int (xa_cons (xe_tup (ds := []) xa_nil (le_of rfl)) xa_nil)))) (le_of rfl)) (xa_cons (xe_tup (ds := [_, _, _, _]) (xa_cons xe_str (xa_cons xe_int (xa_cons xe_int (xa_cons (xe_tup (ds := []) xa_nil (le_of rfl)) xa_nil)))) (le_of rfl)) (xa_cons (xe_tup (ds := [_, _, _, _]) (xa_cons xe_str (xa_cons xe_int (xa_cons xe_int (xa_cons (xe_tup (ds := []) xa_nil (le_of rfl)) xa_nil)))) (le_of rfl)) xa_nil))) (le_of rfl) rfl)) ?_ (lt_of rfl)
  refine xss_set (x := .lst toldAB) C 2 rfl rfl (xn (xn_to (xe_watched (T := T) (it := 3) (jw := 1) (Nl := ["_law_here", "_law_wish_here"]) (ps := ["_law_here", "_law_wish_here"]) (fr := []) (js := []) (ks := []) (kd := 3) (b := 10) (cc := 10) (h := 0) (dl := []) (ws := [wA, wB, wC]) C rfl Dw (hr.mono (by decide)) m1 m2 m3 c_check_easy c_is_listed c_is_wish c_let_by c_behind_of
    rfl hTne TB hcode hmT hu rfl (by rw [C.hsc]; exact free_by (by decide +kernel)) (fun y hy => by cases hy) rfl rfl (NdefX.nscope_by (by decide +kernel)) rfl (fun _ _ _ _ _ _ _ => rfl) (fun c' => says_by (vs := [0, 1]) (gs := ["_law_lets"]) (by decide +kernel) (by decide) C.glb (fun Y hY CY hrY b c h dl wi ok okw => ⟨_, xe_call (hY.cal c_L_lets) hrY (by decide) CY 0 rfl (xa_cons xe_int (xa_cons (xe_tup (ds := [_, _, _]) (xa_cons (xe_cells (hY.std S) (xe_v CY 0 rfl rfl rfl)) (xa_cons (xe_head (hY.std S) (xe_v CY 0 rfl rfl rfl)) (xa_cons (xe_deeds (hY.std S) (xe_v CY 0 rfl rfl rfl)) xa_nil))) (le_of rfl)) (xa_cons (xe_v CY 1 rfl rfl rfl) xa_nil))) (argc_ds _ [_, _, _]) (.mk ok okw)⟩))
    (xa_cons (xe_v C 0 rfl rfl rfl) (xa_cons (xe_v C 1 rfl rfl rfl) xa_nil)) (argc_ds _ [_, _]) (.inl rfl) ok0 fine0 chainAB (by decide) (by decide)) (congrArg D.lst told_eq))) ?_ (lt_of rfl)
  exact xss_ret (xe_and (p := true) (q := true) (xe_eqL (ds := toldAB) hr (xe_v C 2 rfl rfl rfl) (xe_lst (ds := toldAB) (xa_cons (xe_tup (ds := [_, _, _]) (xa_cons (xe_ixL (xe_v C 1 rfl rfl rfl) xe_int rfl rfl) (xa_cons xe_bl (xa_cons xe_str xa_nil))) (le_of rfl)) (xa_cons (xe_tup (ds := [_, _, _]) (xa_cons (xe_ixL (xe_v C 1 rfl rfl rfl) xe_int rfl rfl) (xa_cons xe_bl (xa_cons xe_str xa_nil))) (le_of rfl)) xa_nil)) (le_of rfl) rfl) rfl rfl rfl (by decide)) (fun _ => xe_one (xe_not (xn (xe_call c_L_can hr (by decide) C 2 rfl (xa_cons (xe_tup (ds := [_, _, _]) (xa_cons xe_int (xa_cons xe_int (xa_cons (xe_tup (ds := [_, _]) (xa_cons (xe_tup (ds := [_, _, _]) (xa_cons xe_int (xa_cons xe_int (xa_cons (xe_tup (ds := []) xa_nil (le_of rfl)) xa_nil))) (le_of rfl)) (xa_cons (xe_tup (ds := [_, _, _]) (xa_cons xe_int (xa_cons xe_int (xa_cons (xe_tup (ds := []) xa_nil (le_of rfl)) xa_nil))) (le_of rfl)) xa_nil)) (le_of rfl)) xa_nil))) (le_of rfl)) xa_nil) (argc_ds _ [_]) (.mk (c := 10) (h := 9) (dl := dB) okB fineBf (by decide) (by decide) (by decide)))))) (by intro z; cases z)) rfl rfl
end K06
/-! K19: max of a tuple, isinstance of one's own list, a def without arguments whose table grows, the hand taken. -/
namespace K06
open PySem PySem.Spec L2
def rMaxTI (K : PySem.W.Frag) : List V → Hp → VK → Prop := fun vs H Q => ∃ (a : Addr) (n : Int) (ns : List Int), vs = [V.ref a] ∧ SqT K H a ((n :: ns).map V.int) ∧ Q (.int (ns.foldl max n)) H
theorem reads_ints {h : Heap} : ∀ {ns : List Int} {us : List Value}, Vals (ns.map V.int) us → ReadsAll h us (ns.map PyData.int) []
  | [], us, r => by cases r; exact .nil
  | n :: ns, us, r => by
    cases r with
    | cons a b =>
      obtain ⟨t, rfl⟩ := a
      exact .cons (as := []) (bs := []) (.int n t) (reads_ints b)
theorem depth_ints : ∀ ns : List Int, PyData.depthAll (ns.map PyData.int) = 0
  | [] => rfl
  | n :: ns => by
    show max 0 (PyData.depthAll (ns.map PyData.int)) = 0
    rw [depth_ints ns]
    rfl
section
variable {X : Cx} {CS : Addr} {sc : Scope} {N : List Str} {vs ls : List Nat} {gs : List Str} {a b e : Expr} {es : List Expr} {δ δ1 δ2 : Sto} {r : Res} {ds : List D} {pos p2 p' : Pos} {nm : Str} {rest : List Stmt} {P' : Post}
theorem cr_maxTI (hc : X.calm = true) (hu : X.A.units + 64 < cLine) : CallR X (.builtin "max") (rMaxTI X.K) := by
  intro pins s σ H vs us Q I r h
  obtain ⟨a, n, ns, rfl, hs, q⟩ := h
  obtain ⟨its, rv, ht, _⟩ := I.tuple hs
  rw [Vals.ref1 r]
  have hr : ReadsAll s.heap its.toArray.toList (PyData.int n :: ns.map PyData.int) [] := by simpa using reads_ints (h := s.heap) rv
  have hd : PyData.depthAll (PyData.int n :: ns.map PyData.int) = 0 := depth_ints (n :: ns)
  obtain ⟨ob, hob, hcl, m, hdat⟩ := ht
  refine PySem.W.max_tuple_data (I.ok.hd hc) ⟨ob, hob, hcl, m, hdat⟩ hr ⟨fun x hx y hy => ?_, fun x hx => ?_⟩ (by omega) (fun i v h' tk bs hv hrd hk => ?_)
  · have hx' : x ∈ (n :: ns).map PyData.int := hx
    have hy' : y ∈ (n :: ns).map PyData.int := hy
    obtain ⟨i, _, rfl⟩ := List.mem_map.mp hx'
    obtain ⟨j, _, rfl⟩ := List.mem_map.mp hy'
    rfl
  · have hx' : x ∈ (n :: ns).map PyData.int := hx
    obtain ⟨i, _, rfl⟩ := List.mem_map.mp hx'
    intro z
    cases z
  · rw [PySem.W.maxD_ints] at hrd
    cases hrd with
    | int _ t => exact ⟨.int _, H, I.kept hk, ⟨t, rfl⟩, q⟩
theorem xe_maxT {n : Int} {ns : List Int} {k0 : Nat} (hr : Room k0 X.A) (C : Ctx X sc N vs ls gs) (k : Nat) (hk : gs[k]? = some "max") (ha : XE X CS a δ r δ1) (hc : TupC r ((n :: ns).map D.int)) (hs : starEach [a] X.env = (false, eval a X.env) :: starEach [] X.env := by rfl) : XE X CS (.Call (.Name "max" p2) [a] [] pos) δ (.d (.int (ns.foldl max n))) δ1 :=
  xe_callB C k hk (cr_maxTI C.calm hr.units) C.glb.max (by decide +kernel) (xa_cons ha xa_nil hs) (fun A B σ H0 H ws Q s t q kk => by
    obtain ⟨v, e, q1⟩ := RRs.one q
    obtain ⟨p, us, e2, g1, g2⟩ := hc.at' t q1
    have e3 := g2.ints
    subst e3
    exact ⟨p, n, ns, by rw [e, e2], SqT.of g1, kk _ H (Same.refl H) rfl⟩) (he := hs)
/-- isinstance(l, list), l one's own list -/
theorem xe_isiM {l : Addr} {i : Nat} (C : Ctx X sc N vs ls gs) (k : Nat) (hk : gs[k]? = some "isinstance") (ha : XE X CS a δ (.m l) δ1) (hb : XE X CS b δ1 (.d (.ty "list")) δ2) (hi : δ2[i]? = some (some (.ml l ds)))
    (hs : starEach [a, b] X.env = (false, eval a X.env) :: starEach [b] X.env := by rfl) (hs2 : starEach [b] X.env = (false, eval b X.env) :: starEach [] X.env := by rfl) (hpl : (backTo pos (starEach [b] X.env)).any (·.1) = false := by rfl) :
    XE X CS (.Call (.Name "isinstance" p2) [a, b] [] pos) δ (.d (.bl true)) δ2 :=
  xe_callB C k hk call_isi C.glb.isinstance (by decide +kernel) (xa_cons ha (xa_cons hb xa_nil hs2) hs) (fun A B σ H0 H ws Q s t w kk => by
    obtain ⟨v, u, e1, q1, q2⟩ := RRs.two w
    have e2 : u = .ty "list" := q2
    subst e2
    obtain ⟨v', f1, f2, fA, lf, us, f3, f4⟩ := s.sl i _ hi
    have hv : Rep CS H (fun _ => False) (.lst ds) v := ⟨l, us, q1, fun z => z, f3, Reps.anti (fun a z => z.elim) _ _ f4⟩
    exact ⟨v, .ty "list", .type "list", .type "list", true, e1, .ty "list", tyX_of hv rfl, kit_ty (by decide +kernel), kk _ H (Same.refl H) rfl⟩) (he := hs) (hpl := hpl)
/-- a def without arguments whose table grows: it answers True -/
def spT (T : List (Addr × Str)) : Sp := fun vs H Q _ => vs = [] ∧ LamX.Tabs T H ∧ ∀ H', LamX.ExtN H H' → (∀ b, H b ≠ none → H' b ≠ none) → LamX.Tabs T H' → Q (.bl true) H'
theorem xe_callT {T : List (Addr × Str)} {kc k it j : Nat} (c : CalX X kc nm (spT T)) (hr : Room k X.A) (hk : kc ≤ k) (C : Ctx X sc N vs ls gs) (hj : gs[j]? = some nm) (hT : δ[it]? = some (some (.tb T))) (hTne : T ≠ []) : XE X CS (.Call (.Name nm p2) [] [] pos) δ (.d (.bl true)) δ := by
  obtain ⟨f, fd, ps, F, hm, hkp, hb⟩ := c.ex
  obtain ⟨g1, g2⟩ := C.gl j nm hj
  refine pe_weak (pe_call0 F (hr.mono hk) g1 hm hkp hb .nil pass0 g2) fun σ H Q ⟨A, B, s, kk⟩ => ?_
  have hBt : B.t = T := by
    obtain ⟨_, _, z⟩ := s.sl it _ hT
    exact z
  have hTb : LamX.Tabs T H := by
    have := s.tabs.tb
    rw [hBt] at this
    exact this
  exact ⟨rfl, hTb, fun H' ex th ts => kk _ H' (ext_extN (by rw [hBt]; exact hTne) ex th) (s.extN ex (by rw [hBt]; exact ts)) rfl⟩
theorem FnOk_T {P : Program} {w : World} {K : PySem.W.Frag} {mg : Str → Option Value} {base : Heap} {nm ph : Str} {st : Stmt} {f c : Addr} {fd : FuncData} {T : List (Addr × Str)} {N : List Str} {V G} {i k : Nat} (F : FunC K nm st f fd c) (S : FnScope N [] (defScope st)) (ok : scOk N V V G (defScope st) = true) (hg : Glb mg) (hN : N[i]? = some ph) (hv : ¬ Vis (defScope st) ph)
    (hb : ∀ X, CxI P w K mg base X → Ctx X (defScope st) N V V G → X.env.code = .ref c → X.env.qual = nm ++ ".<locals>." → Room k X.A → XSs X CS (defBody st) ((startD N []).set i (some (.tb T))) (Pr (.bl true))) : FnOk P w K mg base CX0 (k + 1) f fd [] (spT T) := by
  obtain ⟨oc, od, kV, doc, pm, an, ct, osl, rfl, lk, hcd⟩ := F.ex
  have hi : i < N.length := (List.getElem?_eq_some_iff.mp hN).1
  refine fn_of lk hcd S (fun vs H Q E h => by rw [h.1]; rfl) fun A outer s H vs Q E hr h => ?_
  obtain ⟨rfl, hT, hk⟩ := h
  have hx := hb (cxOf CX0 P w K mg base N nm (defScope st) f (.ref c) A outer s H E).nox ⟨rfl, rfl, rfl, rfl, rfl⟩ (Ctx.body ok S.nd hg) rfl rfl hr
  refine ⟨_, (pss_ph hx hN hv).nox, fun _ => False, ⟨fun _ => False, fun _ => False, T⟩, ?_, (fun σ' H' A' δ' z => by cases z), fun σ' H' A' δ' d v z ex sr rp => ?_, fun _ _ _ _ z => z.elim, fun _ _ _ _ z => z.elim⟩
  · exact (start_sr (B := ⟨fun _ => False, fun _ => False, T⟩) (A := fun _ => False) (ss := []) ⟨hT, fun _ c q _ z => by rcases z with (z | z) | z <;> exact z⟩ rfl (fun a z => by rcases z with (z | z) | z <;> exact z.elim) (fun i t v e _ => by simp at e) (fun i j t t' l e _ _ => by simp at e)).setT (by simpa [startD] using hi) rfl
  · have ed : d = .bl true := z
    subst ed
    have ev : v = .bl true := rp
    subst ev
    exact hk H' (fun b o y n => ex.out' b o (fun q => q.elim id id) (.inr n) y) ex.there sr.tabs.tb
/-- the hand is taken -/
theorem xss_setHd {ns : List Int} {kc k0 j : Nat} {fn : Str} (c : CalX X kc fn (spHand CS X.K)) (hr : Room k0 X.A) (hkc : kc ≤ k0) (C : Ctx X sc N vs ls gs) (hj : gs[j]? = some fn) (i0 k : Nat) {sn : Str} {ps : Pos} (hi0 : N[i0]? = some sn) (hv0 : vs.contains i0 = true) (hi : N[k]? = some nm) (hl : ls.contains k = true) (hlen : ns.length ≤ 63) (hk : k < δ.length)
    (h2 : ∀ p c, XSs X CS rest (δ.set k (some (.hd p c ⟨ns.map absI, 0, 0, 1 + ns.length, 0⟩))) P')
    (he : starEach [.Name sn ps] X.env = (false, eval (.Name sn ps) X.env) :: starEach [] X.env := by rfl) {spos : Pos} (hs' : swapsWith (.Call (.Name fn p2) [.Name sn ps] [] pos) (some (.Name nm p')) spos.line X.env = pure false := by rfl) :
    PSs X (.Assign [.Name nm p'] (.Call (.Name fn p2) [.Name sn ps] [] pos) spos :: rest) (fun D σ H => (∃ a, σ[i0]? = some (some (V.ref a)) ∧ SqL X.K H a (ns.map V.int)) ∧ tS CS δ P' D σ H) := by
  obtain ⟨f, fd, pp, F, hm, hkp, hb⟩ := c.ex
  obtain ⟨g1, g2⟩ := C.gl j fn hj
  obtain ⟨h1, h3, h4⟩ := C.vis i0 sn hv0 hi0
  obtain ⟨l1, l2⟩ := C.loc k nm hl hi
  refine pss_weak (pss_cons (ps_set (i := k) (by rw [C.hN]; exact C.nd) (by rw [C.hN]; exact hi) l1 (pe_call F (hr.mono hkc) g1 hm hkp hb .nil pass0 (pa_cons (pe_var (i := i0) (by rw [C.hN]; exact hi0) h1 h3 h4) pa_nil he) g2 he rfl) hs' l2) (pss_ex (ι := Addr × Addr) (p := fun _ => True) fun q _ => h2 q.1 q.2)) fun D σ H ⟨⟨a, ea, hS⟩, A, B, s, kk⟩ => ?_
  refine ⟨.ref a, ea, a, ns, rfl, hS, hlen, fun v H' sm rp => ?_⟩
  obtain ⟨p, us, ev, np, hp, v1, w1, ew, r1, r2⟩ := rp
  subst ev; subst ew
  obtain ⟨cc, us2, e1, nc, hc, r3⟩ := r1
  subst e1
  obtain ⟨v2, w2, ew, r4, v3, w3, ew3, r5, v4, w4, ew4, r6, v5, w5, ew5, r7, r8⟩ := r2
  have x4 : v2 = .int 0 := r4
  have x5 : v3 = .int 0 := r5
  have x6 : v4 = .int (1 + ns.length) := r6
  have x7 : v5 = .int 0 := r7
  have x8 : w5 = [] := r8
  subst x8; subst ew5; subst ew4; subst ew3; subst ew; subst x4; subst x5; subst x6; subst x7
  have hH : ∀ l, ¬ H l ≠ none → H l = none := fun l z => Classical.byContradiction fun y => z y
  have x9 := Reps.ints r3
  subst x9
  have hcp : cc ≠ p := fun z => by
    rw [z, hp] at hc
    have e := Option.some.inj hc
    injection e with e
    cases q : ns.map absI with
    | nil => rw [q] at e; cases e
    | cons n l => rw [q] at e; cases e
  have nU : ¬ Un2 (fun a => A a ∨ a = p) B cc := fun z => by
    rcases z with ((z | z) | z) | z
    · exact s.fresh (hH cc nc) (.inl (.inl z))
    · exact hcp z
    · exact s.fresh (hH cc nc) (.inl (.inr z))
    · exact s.fresh (hH cc nc) (.inr z)
  obtain ⟨x1, x2⟩ := SR.bind (t := .hd p cc ⟨ns.map absI, 0, 0, 1 + ns.length, 0⟩) s (s.same sm) (Same.ext sm) Cng.refl (hH p np) (by rw [hp]; trivial) hk rfl ⟨rfl, .inl (.inr rfl), nU, hp, hc⟩
  exact ⟨(p, cc), trivial, tS_step (P := P') x1 x2 kk⟩
end
end K06
/-! D24: the law. -/
namespace K06
open PySem PySem.Spec L2
variable {P : Program} {w : World} {K : PySem.W.Frag} {mg : Str → Option Value} {base : Heap} {CS : Addr} {X : Cx}
/-- cells for which the deeds are easy -/
theorem cells_pick {b c h : Int} {dl : List Deed} (o : Ok b h dl) (c1 : 1 ≤ c) (cu : used0 h dl ≤ c) (hf : fineB c h dl = false) : ∃ a l, loads h dl = a :: l ∧ fineB (l.foldl max a) h dl = true ∧ 1 ≤ l.foldl max a ∧ used0 h dl ≤ l.foldl max a ∧ l.foldl max a ≤ 31 * b := by
  have hex : ∃ d, d < dl.length ∧ c < load h dl d := Classical.byContradiction fun no => by
    have : fineB c h dl = true := by
      unfold fineB loads
      rw [List.all_eq_true]
      intro l hl
      obtain ⟨i, hi, rfl⟩ := List.mem_map.mp hl
      exact decide_eq_true (Int.not_lt.mp fun z => no ⟨i, List.mem_range.mp hi, z⟩)
    rw [this] at hf
    cases hf
  obtain ⟨d, hd, hl⟩ := hex
  have hm : load h dl d ∈ loads h dl := List.mem_map.mpr ⟨d, List.mem_range.mpr hd, rfl⟩
  cases q : loads h dl with
  | nil => rw [q] at hm; cases hm
  | cons a l =>
    obtain ⟨m1, m2⟩ := maxL_ok (a := a) (l := l)
    have e : maxL (a :: l) = l.foldl max a := rfl
    rw [e] at m1 m2
    rw [q] at hm
    have h1 := m2 _ hm
    refine ⟨a, l, rfl, ?_, by omega, by omega, ?_⟩
    · unfold fineB
      rw [q, List.all_eq_true]
      exact fun y hy => decide_eq_true (m2 y hy)
    · rw [← q] at m1
      obtain ⟨i, hi, ei⟩ := List.mem_map.mp m1
      rw [← ei]
      exact (load_le o (List.mem_range.mp hi)).2
theorem ledF_len (k c : Int) (wt : Bool) : ∀ (n : Nat) (h : Int) (dl : List Deed) (g : Hand), (ledF k c wt n h dl g).1.length ≤ n
  | 0, h, dl, g => Nat.le_refl 0
  | n + 1, h, dl, g => by
    simp only [ledF]
    split
    · show 1 ≤ n + 1
      omega
    · have := ledF_len k c wt n (nextH h (tellW k c h dl (wishF g dl wt).1)) (nextD h dl (tellW k c h dl (wishF g dl wt).1)) (wishF g dl wt).2
      rw [List.length_cons]
      omega
theorem word_free (t : Told) : wordOf t.flag t.due = "free" ↔ t.free = true := by
  unfold wordOf Told.free
  cases t.flag <;> cases t.due <;> decide
theorem last_at {ts : List Told} {t : Told} : L2.atI ((ts ++ [t]).map Told.enc) (-1) = some t.enc := by
  have e : ixN ((ts ++ [t]).map Told.enc).length (-1) = some ts.length := by
    rw [List.length_map, List.length_append, List.length_singleton]
    unfold ixN
    rw [if_neg (by decide), if_pos (by omega)]
    congr 1
    omega
  unfold L2.atI
  rw [e]
  simp
theorem qd_nats (ns : List Nat) : QDs (natsD ns) = true ∧ dpDs (natsD ns) = 0 := by
  induction ns with
  | nil => exact ⟨rfl, rfl⟩
  | cons n ns ih =>
    refine ⟨?_, ?_⟩
    · show (true && QDs (natsD ns)) = true
      rw [ih.1]; rfl
    · show max 0 (dpDs (natsD ns)) = 0
      rw [ih.2]; rfl
theorem qd_wish (w : Wish) : QD w.enc = true ∧ dpD w.enc ≤ 2 := by
  cases w with
  | row d c n => exact ⟨rfl, by show max 0 (max 0 (max 0 (max 0 0))) + 1 ≤ 2; decide⟩
  | opn c n ws =>
    obtain ⟨a, b⟩ := qd_nats ws
    refine ⟨?_, ?_⟩
    · show (true && (true && (true && (QDs (natsD ws) && true)))) = true
      rw [a]; rfl
    · show max 0 (max 0 (max 0 (max (dpDs (natsD ws) + 1) 0))) + 1 ≤ 2
      rw [b]; decide
  | wait d o => exact ⟨rfl, by show max 0 (max 0 (max 0 0)) + 1 ≤ 2; decide⟩
theorem qd_tolds (ts : List Told) : QDs (ts.map Told.enc) = true ∧ dpDs (ts.map Told.enc) ≤ 3 := by
  induction ts with
  | nil => exact ⟨rfl, by decide⟩
  | cons t ts ih =>
    obtain ⟨a, b⟩ := qd_wish t.w
    refine ⟨?_, ?_⟩
    · show ((QD t.w.enc && (true && (true && true))) && QDs (ts.map Told.enc)) = true
      rw [a, ih.1]; rfl
    · show max (max (dpD t.w.enc) (max 0 (max 0 0)) + 1) (dpDs (ts.map Told.enc)) ≤ 3
      have := ih.2
      omega
def needsL (dl : List Deed) : List Int := dl.map fun d : Deed => d.need
theorem needs_map (dl : List Deed) : (List.range (encDs dl).length).filterMap (fun i => some (D.int (dl.getD i dflt).need)) = (needsL dl).map D.int := by
  unfold needsL
  rw [encDs_len, fm_some, List.map_map]
  exact range_get _ _ _ fun m x hx => by rw [getD_of hx]; rfl
theorem needs_sum (dl : List Deed) : (needsL dl).sum = needSum dl (List.range dl.length) := by
  unfold needSum needsL
  congr 1
  refine List.ext_getElem? fun i => ?_
  rw [List.getElem?_map, List.getElem?_map]
  by_cases hi : i < dl.length
  · rw [List.getElem?_range hi, getD_some hi]
    show some _ = some (needAt dl i)
    rw [needAt_getD hi]
  · rw [List.getElem?_eq_none (by omega), List.getElem?_eq_none (by simp; omega)]
    rfl
abbrev N_lw : List Str := ["_law_script", "_law_hand_here", "_law_turn", "_law_parts_here", "_law_standing", "_law_kind", "_law_wishes", "_law_due", "_law_later", "_law_told", "_law_deed", "#"]
theorem ok_lw : scOk N_lw V_law V_law G_law (defScope s_law) = true := by decide +kernel
theorem b_law {T : List (Addr × Str)} {c Pt a : Addr} {ns : List Int} (hlen : ns.length ≤ 63) (C : Ctx X (defScope s_law) N_lw V_law V_law G_law) (hr : Room 15 X.A) (S : StdC X.K CS) (Dw : Df X.K X.mg "watched" s_watched)
    (m1 : CstS X.mg "SAME" "") (m2 : CstS X.mg "SHY" "shy") (m3 : CstS X.mg "FREE" "free") (c_Standing : MakP X.prog X.w X.K X.mg X.base CS 6 "Standing" R_std)
    (c_check_easy : CalX X 6 "check_easy" (spD CS R_check_easy)) (c_is_listed : CalX X 1 "is_listed" (spD CS R_is_listed)) (c_is_wish : CalX X 5 "is_wish" (spD CS R_is_wish)) (c_let_by : CalX X 11 "let_by" (spD CS R_let_by)) (c_behind_of : CalX X 10 "behind_of" (spD CS R_behind_of))
    (c_L_lets : CalX X 5 "_law_lets" (spD CS R_L_lets)) (c_L_can : CalX X 3 "_law_can" (spD CS R_L_can)) (c_L_hand : CalX X 2 "_law_hand" (spHand CS X.K)) (c_L_draw : CalX X 1 "_law_draw" (spH CS R_L_draw)) (c_L_parts : CalX X 6 "_law_parts" (spH CS R_L_parts))
    (c_L_fine : CalX X 5 "_law_fine" (spD CS R_L_fine)) (c_L_loads : CalX X 4 "_law_loads" (spD CS R_L_loads)) (c_L_led : CalX X 6 "_law_led" (spH CS R_L_led)) (c_L_is_course : CalX X 3 "_law_is_course" (spD CS R_L_is_course)) (c_course : CalX X 6 "course" (spD CS R_course)) (c_by_hand : CalX X 14 "_law_by_hand" (spT T))
    (hTne : T ≠ []) (TB : LamX.TabB X.base X.mg c Pt) (hcode : X.env.code = .ref c) (hmT : (Pt, X.env.qual ++ "<lambda>") ∈ T) (hu : ∀ p ∈ T, p.1 = Pt → p.2 = X.env.qual ++ "<lambda>") :
    PSs X (defBody s_law) (fun D σ H => (∃ a, σ[0]? = some (some (V.ref a)) ∧ SqL X.K H a (ns.map V.int)) ∧ tS CS [some (.im (.adr a)), none, none, none, none, none, none, none, none, none, none, some (.tb T)] (Pr (.bl true)) D σ H) := by
  refine xss_setHd c_L_hand hr (by decide) C (j := 0) rfl 0 1 rfl rfl rfl rfl hlen (lt_of rfl) (fun p c => ?_)
  refine xss_for C (xi_r (n := 3) C 1 rfl xe_int (by decide)) (fun i δ => ∃ g x2 x3 x4 x5 x6 x7 x8 x9, HOk' g ∧ δ = [some (.im (.adr a)), some (.hd p c g), x2, x3, x4, x5, x6, x7, x8, x9, none, some (.tb T)]) _ ⟨⟨ns.map absI, 0, 0, 1 + ns.length, 0⟩, none, none, none, none, none, none, none, none, Int.le_refl 0, rfl⟩ (fun i d δ hd hI => ?_) (fun δ z => z) (fun δ hI => ?_)
  · obtain ⟨g, x2, x3, x4, x5, x6, x7, x8, x9, hg, rfl⟩ := hI
    refine ⟨_, _, (xg_n C 2 rfl rfl (lt_of rfl)), ?_⟩
    -- the parts
    have n5 := drawF_lt g (by decide : (0 : Int) < 5)
    have en : (drawF g 5).1 = (((drawF g 5).1.toNat : Nat) : Int) := by omega
    have hn5 : (drawF g 5).1.toNat < 5 := by omega
    have q1 := drawF_ok 5 hg
    have q2 := drawF_ok 2 q1
    have hs3 : ([0, 3] : List Int).getD (drawF (drawF g 5).2 2).1.toNat 0 ≤ 3 := by
      have := drawF_lt (drawF g 5).2 (by decide : (0 : Int) < 2)
      generalize (drawF (drawF g 5).2 2).1.toNat = j
      match j with
      | 0 => decide
      | 1 => decide
      | j + 2 => show (0 : Int) ≤ 3; decide
    have c1 := drawF_cells g 5
    have c2 := drawF_cells (drawF g 5).2 2
    refine xss_set C 3 rfl rfl (xn (xe_callH c_L_parts hr (by decide) C 2 rfl 1 rfl rfl rfl (xa_cons (xe_i (xn (xe_callH c_L_draw hr (by decide) C 3 rfl 1 rfl rfl rfl (xa_cons xe_int xa_nil) rfl (argc_ds _ [_]) (.mk hg (by decide) (by decide)) c1)) en) (xa_cons xe_int (xa_cons (xe_ixL (ds := ([0, 3] : List Int).map D.int) (xe_lst (ds := [_, _]) (xa_cons xe_int (xa_cons xe_int xa_nil)) (le_of rfl) rfl) (xn (xe_callH c_L_draw hr (by decide) C 3 rfl 1 rfl rfl rfl (xa_cons xe_int xa_nil) rfl (argc_ds _ [_]) (.mk q1 (by decide) (by decide)) c2)) rfl (drawn_at [0, 3] (by decide) rfl)) xa_nil))) rfl (argc_ds _ [_, _, _]) (.mk (n := (drawF g 5).1.toNat) q2 (by omega) (by omega)) ?_)) ?_ (lt_of rfl)
    · obtain ⟨_, k1, k2⟩ := dsG_ok (n := (drawF g 5).1.toNat) (m := 5) (s := ([0, 3] : List Int).getD (drawF (drawF g 5).2 2).1.toNat 0) q2 (by decide) (by omega)
      rw [drawF_cells, k2]
    · obtain ⟨o, k1, k2⟩ := dsG_ok (n := (drawF g 5).1.toNat) (m := 5) (s := ([0, 3] : List Int).getD (drawF (drawF g 5).2 2).1.toNat 0) q2 (by decide) (by omega)
      obtain ⟨cc1, cc2, cc3⟩ := cG_ok o
      have k3 := drawF_ok 6 k1
      have hdl : (dsG (drawF (drawF g 5).2 2).2 (drawF g 5).1.toNat 5 (([0, 3] : List Int).getD (drawF (drawF g 5).2 2).1.toNat 0)).length = (drawF g 5).1.toNat := mkDs_len _ _ _ _
      generalize (drawF (ndG (drawF (drawF g 5).2 2).2 (drawF g 5).1.toNat 5 (([0, 3] : List Int).getD (drawF (drawF g 5).2 2).1.toNat 0)).2 6).2 = g3 at k3 ⊢
      generalize dsG (drawF (drawF g 5).2 2).2 (drawF g 5).1.toNat 5 (([0, 3] : List Int).getD (drawF (drawF g 5).2 2).1.toNat 0) = dl at o cc2 hdl ⊢
      generalize hG (drawF (drawF g 5).2 2).2 (drawF g 5).1.toNat 5 = h at o cc2 ⊢
      generalize cG (drawF (drawF g 5).2 2).2 (drawF g 5).1.toNat 5 (([0, 3] : List Int).getD (drawF (drawF g 5).2 2).1.toNat 0) = c0 at cc1 cc2 cc3 ⊢
      have o' : Ok 29 h dl := o.mono (by omega)
      have cc4 : c0 ≤ 1000 := by omega
      -- easy
      obtain ⟨c3, hf, d1, d2, d3, hc3⟩ : ∃ c3, fineB c3 h dl = true ∧ 1 ≤ c3 ∧ used0 h dl ≤ c3 ∧ c3 ≤ 1000 ∧ ((fineB c0 h dl = true ∧ c3 = c0) ∨ (fineB c0 h dl = false ∧ ∃ a l, loads h dl = a :: l ∧ c3 = l.foldl max a)) := by
        cases q : fineB c0 h dl with
        | true => exact ⟨c0, q, cc1, cc2, cc4, .inl ⟨rfl, rfl⟩⟩
        | false =>
          obtain ⟨a, l, e1, e2, e3, e4, e5⟩ := cells_pick o' cc1 cc2 q
          exact ⟨_, e2, e3, e4, by omega, .inr ⟨rfl, a, l, e1, rfl⟩⟩
      refine xss_if (Mid := fun δ' => δ' = [some (.im (.adr a)), some (.hd p c g3), some (.im d), some (.im (prt c3 h dl)), x4, x5, x6, x7, x8, x9, none, some (.tb T)]) (xt_not (xt_v (xn (xe_call c_L_fine hr (by decide) C 4 rfl (xa_cons (xe_v C 3 rfl rfl rfl) xa_nil) (argc_ds _ [_]) (.mk o'))))) (fun hb => ?_) (fun hb => ?_) (fun δ' hδ => ?_)
      · rcases hc3 with ⟨z, _⟩ | ⟨_, a1, l1, e1, e2⟩
        · rw [z] at hb; cases hb
        · subst e2
          refine xss_set (x := prt (l1.foldl max a1) h dl) C 3 rfl rfl (xe_tup (ds := [_, _, _]) (xa_cons (xe_maxT (n := a1) (ns := l1) hr C 5 rfl (xn (xe_call c_L_loads hr (by decide) C 6 rfl (xa_cons (xe_ixT (xe_v C 3 rfl rfl rfl) xe_int rfl rfl) (xa_cons (xe_ixT (xe_v C 3 rfl rfl rfl) xe_int rfl rfl) xa_nil)) (argc_ds _ [_, _]) (.mk o'))) (congrArg (List.map D.int) e1)) (xa_cons (xe_ixT (xe_v C 3 rfl rfl rfl) xe_int rfl rfl) (xa_cons (xe_ixT (xe_v C 3 rfl rfl rfl) xe_int rfl rfl) xa_nil))) (le_of rfl)) (xss_nil rfl) (lt_of rfl)
      · rcases hc3 with ⟨_, z⟩ | ⟨z, _⟩
        · subst z
          exact xss_nil rfl
        · rw [z] at hb; cases hb
      subst hδ
      clear hc3 cc1 cc2 cc3 cc4 o
      -- the standing, the kind
      refine xss_set (x := .std c3 h (encDs dl)) C 4 rfl rfl (xn (xe_make c_Standing (hr.mono (by decide) : Room (13 + 1) X.A) (by decide) C 7 rfl (xa_cons (xe_ixT (xe_v C 3 rfl rfl rfl) xe_int rfl rfl) (xa_cons (xe_ixT (xe_v C 3 rfl rfl rfl) xe_int rfl rfl) (xa_cons (xe_ixT (xe_v C 3 rfl rfl rfl) xe_int rfl rfl) xa_nil))) ⟨29, dl, rfl, o', by decide, d1, by omega, d2⟩ (lf_encs dl))) ?_ (lt_of rfl)
      have k4 := drawF_ok 8 k3
      have k5 := drawF_ok 2 k4
      refine xss_set C 5 rfl rfl (xn (xe_callH c_L_draw hr (by decide) C 3 rfl 1 rfl rfl rfl (xa_cons xe_int xa_nil) rfl (argc_ds _ [_]) (.mk k3 (by decide) (by decide)) (drawF_cells _ _))) ?_ (lt_of rfl)
      generalize (drawF g3 8).1 = kd
      generalize (drawF g3 8).2 = g4 at k4 k5 ⊢
      -- led along wishes
      obtain ⟨t1, t2, t3⟩ := turnsG_ok (drawF g4 2).2
      have k6 := drawF_ok 12 k5
      obtain ⟨W1, W2, W3, W4, W5, W6⟩ := ledF_ok (k := kd) (c := c3) (wt := decide ((drawF g4 2).1 = 0)) (turnsG (drawF g4 2).2) o' k6 (by omega)
      obtain ⟨ts, t, E1, E2⟩ := ledF_end (k := kd) (wt := decide ((drawF g4 2).1 = 0)) (turnsG (drawF g4 2).2) (g := (drawF (drawF g4 2).2 12).2) hf (by omega)
      refine xss_asg (xn (xe_callH c_L_led hr (by decide) C 8 rfl 1 rfl rfl rfl (xa_cons (xe_v C 5 rfl rfl rfl) (xa_cons (xe_v C 3 rfl rfl rfl) (xa_cons (xe_eq (xn (xe_callH c_L_draw hr (by decide) C 3 rfl 1 rfl rfl rfl (xa_cons xe_int xa_nil) rfl (argc_ds _ [_]) (.mk k4 (by decide) (by decide)) (drawF_cells _ _))) xe_int opd_eqI) xa_nil))) rfl (argc_ds _ [_, _, _]) (.mk k5 o' (by decide) (by omega)) ?_)) (xg_t C (xgs_cons (xg_n C 6 rfl rfl (lt_of rfl)) (xgs_cons (xg_n C 7 rfl rfl (lt_of rfl)) (xgs_cons (xg_n C 8 rfl rfl (lt_of rfl)) xgs_nil))) rfl) ?_
      · exact W4.trans (drawF_cells _ _)
      unfold ledG
      generalize hLG : ledF kd c3 (decide ((drawF g4 2).1 = 0)) (turnsG (drawF g4 2).2) h dl (drawF (drawF g4 2).2 12).2 = LG at W1 W2 W3 W4 W5 W6 E1 E2 ⊢
      have hwl : (LG.1.map (·.w)).length ≤ 100 := by
        rw [List.length_map]
        have := ledF_len kd c3 (decide ((drawF g4 2).1 = 0)) (turnsG (drawF g4 2).2) h dl (drawF (drawF g4 2).2 12).2
        rw [hLG] at this
        omega
      obtain ⟨qd1, qd2⟩ := qd_tolds LG.1
      have hwm : (LG.1.map fun t => t.w.enc) = (LG.1.map (·.w)).map Wish.enc := by rw [List.map_map]; rfl
      rw [hwm]
      have lfd := lf_tolds LG.1
      -- watched
      refine xss_setL (ds := LG.1.map Told.enc) C 9 rfl rfl (xn_to (xe_watched (T := T) (it := 11) (jw := 9) (Nl := ["_law_here", "_law_wish_here", "_law_kind"]) (ps := ["_law_here", "_law_wish_here"]) (fr := ["_law_kind"]) (js := [5]) (ks := [kd]) (kd := kd) (b := 29) (cc := c3) (h := h) (dl := dl) (ws := LG.1.map (·.w)) C rfl Dw (hr.mono (by decide)) m1 m2 m3 c_check_easy c_is_listed c_is_wish c_let_by c_behind_of
        rfl hTne TB hcode hmT hu rfl (by rw [C.hsc]; exact free_by (by decide +kernel)) (fun y hy => by rw [List.mem_singleton.mp hy]; exact by decide +kernel) (by rw [C.hN]; rfl) rfl (NdefX.nscope_by (by decide +kernel)) rfl (fun _ _ _ _ _ _ _ => rfl) (fun c' => says_by (vs := [0, 1, 2]) (gs := ["_law_lets"]) (by decide +kernel) (by decide) C.glb (fun Y hY CY hrY b c h dl wi ok okw => ⟨_, xe_call (hY.cal c_L_lets) hrY (by decide) CY 0 rfl (xa_cons (xe_v CY 2 rfl rfl rfl) (xa_cons (xe_tup (ds := [_, _, _]) (xa_cons (xe_cells (hY.std S) (xe_v CY 0 rfl rfl rfl)) (xa_cons (xe_head (hY.std S) (xe_v CY 0 rfl rfl rfl)) (xa_cons (xe_deeds (hY.std S) (xe_v CY 0 rfl rfl rfl)) xa_nil))) (le_of rfl)) (xa_cons (xe_v CY 1 rfl rfl rfl) xa_nil))) (argc_ds _ [_, _, _]) (.mk ok okw)⟩))
        (xa_cons (xe_v C 4 rfl rfl rfl) (xa_cons (xe_v C 6 rfl rfl rfl) xa_nil)) (argc_ds _ [_, _]) (.inl rfl) o' hf W1 (by decide) hwl) (by rw [W2])) lfd (fun lt => ?_) (lt_of rfl)
      refine xss_if0 (xt_or2f (xt_f (xt_not (xt_v (xe_isiM (i := 9) C 10 rfl (xe_m C 9 rfl rfl rfl rfl) (xe_bt (T := "list") C 11 rfl C.glb.list (by decide +kernel)) rfl))) rfl) (xt_neL (ds := LG.1.map Told.enc) hr (xe_m C 9 rfl rfl rfl rfl) (xe_v C 7 rfl rfl rfl) ⟨9, rfl⟩ rfl qd1 (by omega))) (by intro z; cases z) (fun _ => ?_)
      refine xss_clear C 9 rfl rfl rfl ?_
      refine xss_if0 (xt_neL (ds := LG.1.map Told.enc) hr (xn_to (y := .lst (LG.1.map Told.enc)) (xe_watched (T := T) (it := 11) (jw := 9) (Nl := ["_law_here", "_law_one", "_law_kind"]) (ps := ["_law_here", "_law_one"]) (fr := ["_law_kind"]) (js := [5]) (ks := [kd]) (kd := kd) (b := 29) (cc := c3) (h := h) (dl := dl) (ws := LG.1.map (·.w)) C rfl Dw (hr.mono (by decide)) m1 m2 m3 c_check_easy c_is_listed c_is_wish c_let_by c_behind_of
        rfl hTne TB hcode hmT hu rfl (by rw [C.hsc]; exact free_by (by decide +kernel)) (fun y hy => by rw [List.mem_singleton.mp hy]; exact by decide +kernel) (by rw [C.hN]; rfl) rfl (NdefX.nscope_by (by decide +kernel)) rfl (fun _ _ _ _ _ _ _ => rfl) (fun c' => says_by (vs := [0, 1, 2]) (gs := ["_law_lets"]) (by decide +kernel) (by decide) C.glb (fun Y hY CY hrY b c h dl wi ok okw => ⟨_, xe_call (hY.cal c_L_lets) hrY (by decide) CY 0 rfl (xa_cons (xe_v CY 2 rfl rfl rfl) (xa_cons (xe_tup (ds := [_, _, _]) (xa_cons (xe_cells (hY.std S) (xe_v CY 0 rfl rfl rfl)) (xa_cons (xe_head (hY.std S) (xe_v CY 0 rfl rfl rfl)) (xa_cons (xe_deeds (hY.std S) (xe_v CY 0 rfl rfl rfl)) xa_nil))) (le_of rfl)) (xa_cons (xe_v CY 1 rfl rfl rfl) xa_nil))) (argc_ds _ [_, _, _]) (.mk ok okw)⟩))
        (xa_cons (xe_v C 4 rfl rfl rfl) (xa_cons (xe_tuple C 12 rfl (xe_v C 6 rfl rfl rfl) rfl) xa_nil)) (argc_ds _ [_, _]) (.inr rfl) o' hf W1 (by decide) hwl) (by rw [W2])) (xe_v C 7 rfl rfl rfl) rfl rfl qd1 (by omega)) (by intro z; cases z) (fun _ => ?_)
      have hlast : L2.atI (LG.1.map Told.enc) (-1) = some t.enc := by rw [E1]; exact last_at
      have hend : ∀ δ' : Sto, δ' = [some (.im (.adr a)), some (.hd p c LG.2.2.2), some (.im d), some (.im (prt c3 h dl)), some (.im (.std c3 h (encDs dl))), some (.im (.int kd)), some (.im (.lst ((LG.1.map (·.w)).map Wish.enc))), some (.im (.lst (LG.1.map Told.enc))), some (.im (prt c3 LG.2.1 LG.2.2.1)), some (.ml lt []), none, some (.tb T)] →
          ∃ (g : Hand) (x2 x3 x4 x5 x6 x7 x8 x9 : Option Slot), HOk' g ∧ δ' = [some (.im (.adr a)), some (.hd p c g), x2, x3, x4, x5, x6, x7, x8, x9, none, some (.tb T)] := fun δ' z => ⟨_, _, _, _, _, _, _, _, _, W3, z⟩
      rcases E2 with ⟨e1, e2⟩ | ⟨e1, e2⟩
      · have hw : ¬ wordOf t.flag t.due = "free" := fun z => by
          have := (word_free t).mp z
          rw [e1] at this
          cases this
        have hu3 : used0 LG.2.1 LG.2.2.1 ≤ c3 := by
          rcases used_load W5 with e | ⟨i, hi, e⟩
          · omega
          · exact Int.le_trans e (fine_at e2 hi)
        refine xss_if (Mid := fun δ' => δ' = [some (.im (.adr a)), some (.hd p c LG.2.2.2), some (.im d), some (.im (prt c3 h dl)), some (.im (.std c3 h (encDs dl))), some (.im (.int kd)), some (.im (.lst ((LG.1.map (·.w)).map Wish.enc))), some (.im (.lst (LG.1.map Told.enc))), some (.im (prt c3 LG.2.1 LG.2.2.1)), some (.ml lt []), none, some (.tb T)]) (xt_t (xt_ne (xe_ixT (ds := [t.w.enc, .bl t.flag, .str (wordOf t.flag t.due)]) (xe_ixL (xe_v C 7 rfl rfl rfl) (xe_neg xe_int) rfl hlast) xe_int rfl rfl) xe_str opd_neS) (by rw [decide_eq_false hw]; rfl)) (fun _ => ?_) (by intro z; cases z) (fun δ' hδ => xss_nil (hend δ' hδ))
        refine xss_if0 (xt_f (xt_not (xt_v (xn (xe_call c_L_is_course hr (by decide) C 13 rfl (xa_cons (xe_v C 8 rfl rfl rfl) (xa_cons (xn (xe_call c_course hr (by decide) C 14 rfl (xa_cons (xn (xe_make c_Standing (hr.mono (by decide) : Room (13 + 1) X.A) (by decide) C 7 rfl (xa_cons (xe_ixT (xe_v C 8 rfl rfl rfl) xe_int rfl rfl) (xa_cons (xe_ixT (xe_v C 8 rfl rfl rfl) xe_int rfl rfl) (xa_cons (xe_ixT (xe_v C 8 rfl rfl rfl) xe_int rfl rfl) xa_nil))) ⟨_, LG.2.2.1, rfl, W5, by omega, d1, by omega, hu3⟩ (lf_encs _))) xa_nil) (argc_ds _ [_]) (.mk W5 e2))) xa_nil)) (argc_ds _ [_, _]) (.mk W5 e2 (by omega)))))) rfl) (by intro z; cases z) (fun _ => ?_)
        exact xss_nil rfl
      · have hw : wordOf t.flag t.due = "free" := (word_free t).mpr e1
        refine xss_if (Mid := fun δ' => δ' = [some (.im (.adr a)), some (.hd p c LG.2.2.2), some (.im d), some (.im (prt c3 h dl)), some (.im (.std c3 h (encDs dl))), some (.im (.int kd)), some (.im (.lst ((LG.1.map (·.w)).map Wish.enc))), some (.im (.lst (LG.1.map Told.enc))), some (.im (prt c3 LG.2.1 LG.2.2.1)), some (.ml lt []), none, some (.tb T)]) (xt_f (xt_ne (xe_ixT (ds := [t.w.enc, .bl t.flag, .str (wordOf t.flag t.due)]) (xe_ixL (xe_v C 7 rfl rfl rfl) (xe_neg xe_int) rfl hlast) xe_int rfl rfl) xe_str opd_neS) (by rw [decide_eq_true hw]; rfl)) (by intro z; cases z) (fun _ => ?_) (fun δ' hδ => xss_nil (hend δ' hδ))
        have hlen2 := W5.len
        by_cases h5 : ((((encDs LG.2.2.1).length : Nat) : Int) < 5)
        · by_cases h12 : (needsL LG.2.2.1).sum < 12
          · refine xss_if0 (xw (xw_and (xt_t (xt_lt (xe_len C 15 rfl (xe_ixT (xe_v C 8 rfl rfl rfl) xe_int rfl rfl) (.inr rfl)) xe_int) (decide_eq_true h5)) (fun _ => (xw_and (xt_t (xt_lt (xe_sum (ns := needsL LG.2.2.1) C 16 rfl (xe_lcP (own := [("_law_deed", 10)]) (fun i => some (D.int (LG.2.2.1.getD i dflt).need)) C [10] [10] [] (xi_t (xe_ixT (xe_v C 8 rfl rfl rfl) xe_int rfl rfl) rfl) (by decide +kernel) (by decide +kernel) (lf_encs _) (by rw [encDs_len]; omega) (fun m d hd => ?_) (needs_map _)) rfl) xe_int) (decide_eq_true h12)) (fun _ => (xw_and1 (xt_v (xn (xe_call c_L_can hr (by decide) C 17 rfl (xa_cons (xe_v C 8 rfl rfl rfl) xa_nil) (argc_ds _ [_]) (.mk W5 e2 (by omega) (by rw [encDs_len] at h5; omega) (by rw [← needs_sum]; exact h12))))))) (by intro z; cases z))) (by intro z; cases z))) (by intro z; cases z) (fun _ => xss_nil rfl)
            obtain ⟨dd, e, rfl⟩ := encDs_of hd
            exact ⟨_, _, true, rfl, fun Y hB D => (xg_n D 10 rfl rfl (lt_of rfl)), fun Y hB D => xts_nil, fun _ => ⟨_, rfl, fun Y hB D => xe_to (xe_ixT (xe_v D 10 rfl rfl rfl) xe_int rfl rfl) (by rw [getD_of e]), rfl⟩, (by intro z; cases z), rfl⟩
          · refine xss_if0 (xw (xw_and (xt_t (xt_lt (xe_len C 15 rfl (xe_ixT (xe_v C 8 rfl rfl rfl) xe_int rfl rfl) (.inr rfl)) xe_int) (decide_eq_true h5)) (fun _ => (xw_and (xt_f (xt_lt (xe_sum (ns := needsL LG.2.2.1) C 16 rfl (xe_lcP (own := [("_law_deed", 10)]) (fun i => some (D.int (LG.2.2.1.getD i dflt).need)) C [10] [10] [] (xi_t (xe_ixT (xe_v C 8 rfl rfl rfl) xe_int rfl rfl) rfl) (by decide +kernel) (by decide +kernel) (lf_encs _) (by rw [encDs_len]; omega) (fun m d hd => ?_) (needs_map _)) rfl) xe_int) (decide_eq_false h12)) (by intro z; cases z) (fun _ => ⟨rfl, rfl⟩))) (by intro z; cases z))) (by intro z; cases z) (fun _ => xss_nil rfl)
            obtain ⟨dd, e, rfl⟩ := encDs_of hd
            exact ⟨_, _, true, rfl, fun Y hB D => (xg_n D 10 rfl rfl (lt_of rfl)), fun Y hB D => xts_nil, fun _ => ⟨_, rfl, fun Y hB D => xe_to (xe_ixT (xe_v D 10 rfl rfl rfl) xe_int rfl rfl) (by rw [getD_of e]), rfl⟩, (by intro z; cases z), rfl⟩
        · exact xss_if0 (xw (xw_and (xt_f (xt_lt (xe_len C 15 rfl (xe_ixT (xe_v C 8 rfl rfl rfl) xe_int rfl rfl) (.inr rfl)) xe_int) (decide_eq_false h5)) (by intro z; cases z) (fun _ => ⟨rfl, rfl⟩))) (by intro z; cases z) (fun _ => xss_nil rfl)
  · obtain ⟨g, x2, x3, x4, x5, x6, x7, x8, x9, hg, rfl⟩ := hI
    exact xss_ret (xe_callT (it := 11) c_by_hand hr (by decide) C (j := 18) rfl rfl hTne) rfl rfl
end K06
/-! D25: the head's facts; the law's promise (printed by gend25.py). -/
namespace K06
open PySem PySem.Spec L2
def dN (nm : Str) (st : Stmt) : He.FnD := ⟨(nm, none), nm, nm, defArgs st, defBody st, defScope st⟩
def faL : List He.Fa := [.glo "is_integer", .keep "is_integer", .glo "is_within", .keep "is_within", .glo "is_number", .keep "is_number", .glo "is_triple", .keep "is_triple", .glo "is_listed", .keep "is_listed", .glo "is_lot", .keep "is_lot", .glo "waited_for", .keep "waited_for", .glo "is_first_behind", .keep "is_first_behind", .glo "is_waits", .keep "is_waits", .glo "first_wrong", .keep "first_wrong", .glo "first_in_ring", .keep "first_in_ring", .glo "is_too_far", .keep "is_too_far", .glo "waits_of", .keep "waits_of", .glo "loads_of", .keep "loads_of", .glo "too_heavy", .keep "too_heavy", .glo "easy", .keep "easy", .glo "raw_standing", .keep "raw_standing", .glo "is_deed", .keep "is_deed", .glo "is_row_wish", .keep "is_row_wish", .glo "is_open_wish", .keep "is_open_wish", .glo "is_wait_wish", .keep "is_wait_wish", .glo "is_wish", .keep "is_wish", .glo "renumbered", .keep "renumbered", .glo "written_many", .keep "written_many", .glo "behind_row", .keep "behind_row", .glo "behind_open", .keep "behind_open", .glo "behind_wait", .keep "behind_wait", .glo "behind_of", .keep "behind_of", .glo "check_easy", .keep "check_easy", .glo "let_by", .keep "let_by", .glo "_law_closure", .keep "_law_closure", .glo "_law_claim", .keep "_law_claim", .glo "_law_load", .keep "_law_load", .glo "_law_loads", .keep "_law_loads", .glo "_law_used", .keep "_law_used", .glo "_law_fine", .keep "_law_fine", .glo "_law_numbered", .keep "_law_numbered", .glo "_law_aged", .keep "_law_aged", .glo "_law_behind", .keep "_law_behind", .glo "_law_draw", .keep "_law_draw", .glo "_law_waits", .keep "_law_waits", .glo "_law_deeds", .keep "_law_deeds", .glo "_law_parts", .keep "_law_parts", .glo "_law_wish", .keep "_law_wish", .glo "_law_lets", .keep "_law_lets", .glo "_law_led", .keep "_law_led", .glo "going_order", .keep "going_order", .glo "course", .keep "course", .glo "_law_is_whole", .keep "_law_is_whole", .glo "_law_step", .keep "_law_step", .glo "_law_is_course", .keep "_law_is_course", .glo "_law_moves", .keep "_law_moves", .glo "_law_can", .keep "_law_can", .glo "_law_hand", .keep "_law_hand", .glo "watched", .keep "watched", .glo "_law_by_hand", .keep "_law_by_hand", .glo "law", .keep "law", .glo "Standing", .cls "Standing", .noat "Standing" "cells", .noat "Standing" "head", .noat "Standing" "deeds", .mkr "Standing", .meth "Standing" "__init__", .int "MOST_CELLS" (10 ^ 30), .int "MOST_HEAD" (10 ^ 40), .int "MOST_DEEDS" (200), .str "ROW" "row", .str "OPEN" "open", .str "WAIT" "wait", .str "WRITE" "write", .str "GO" "go", .str "SAME" "", .str "SHY" "shy", .str "FREE" "free", .free "len", .free "range", .free "tuple", .free "list", .free "sorted", .free "set", .free "sum", .free "min", .free "max", .free "all", .free "abs", .free "int", .free "bool", .free "str", .free "isinstance", .free "enumerate", .glo "SIZES"]
def fnL : List He.FnD := [dN "is_integer" s_is_integer, dN "is_within" s_is_within, dN "is_number" s_is_number, dN "is_triple" s_is_triple, dN "is_listed" s_is_listed, dN "is_lot" s_is_lot, dN "waited_for" s_waited_for, dN "is_first_behind" s_is_first_behind, dN "is_waits" s_is_waits, dN "first_wrong" s_first_wrong, dN "first_in_ring" s_first_in_ring, dN "is_too_far" s_is_too_far, dN "waits_of" s_waits_of, dN "loads_of" s_loads_of, dN "too_heavy" s_too_heavy, dN "easy" s_easy, dN "raw_standing" s_raw_standing, dN "is_deed" s_is_deed, dN "is_row_wish" s_is_row_wish, dN "is_open_wish" s_is_open_wish, dN "is_wait_wish" s_is_wait_wish, dN "is_wish" s_is_wish, dN "renumbered" s_renumbered, dN "written_many" s_written_many, dN "behind_row" s_behind_row, dN "behind_open" s_behind_open, dN "behind_wait" s_behind_wait, dN "behind_of" s_behind_of, dN "check_easy" s_check_easy, dN "let_by" s_let_by, dN "_law_closure" s_L_closure, dN "_law_claim" s_L_claim, dN "_law_load" s_L_load, dN "_law_loads" s_L_loads, dN "_law_used" s_L_used, dN "_law_fine" s_L_fine, dN "_law_numbered" s_L_numbered, dN "_law_aged" s_L_aged, dN "_law_behind" s_L_behind, dN "_law_draw" s_L_draw, dN "_law_waits" s_L_waits, dN "_law_deeds" s_L_deeds, dN "_law_parts" s_L_parts, dN "_law_wish" s_L_wish, dN "_law_lets" s_L_lets, dN "_law_led" s_L_led, dN "going_order" s_going_order, dN "course" s_course, dN "_law_is_whole" s_L_is_whole, dN "_law_step" s_L_step, dN "_law_is_course" s_L_is_course, dN "_law_moves" s_L_moves, dN "_law_can" s_L_can, dN "_law_hand" s_L_hand, dN "watched" s_watched, dN "_law_by_hand" s_L_by_hand, dN "law" s_law, ⟨("Standing", some "__init__"), "__init__", "Standing.__init__", defArgs s_Standing_init, defBody s_Standing_init, defScope s_Standing_init⟩]
/-- the code object of the def x, the table of a code object -/
def cAd (K : PySem.W.Frag) (x : Str) : Addr := match K.lookup (He.ga K x) with
  | some ⟨_, _, .func fd, _⟩ => (match fd.code with
    | .ref c => c
    | _ => 0)
  | _ => 0
def cIs (K : PySem.W.Frag) (x : Str) : Bool := match K.lookup (He.ga K x) with
  | some ⟨_, _, .func fd, _⟩ => (match fd.code with
    | .ref c => true
    | _ => false)
  | _ => false
def pAd (K : PySem.W.Frag) (c : Addr) : Addr := match K.lookup c with
  | some ⟨_, _, .fields vs, _⟩ => (match (vs[11]? : Option Value) with
    | some (.ref P) => P
    | _ => 0)
  | _ => 0
def esOf (K : PySem.W.Frag) (d : Addr) : Array DictEntry := match K.lookup d with
  | some ⟨_, _, .dict es _, _⟩ => es
  | _ => #[]
def nOf (K : PySem.W.Frag) (d : Addr) : Nat := match K.lookup d with
  | some ⟨_, _, .dict _ n, _⟩ => n
  | _ => 0
def keyT : List DictEntry → Option (List Str)
  | [] => some []
  | e :: r => (match e.key with
    | .str x _ => (match keyT r with
      | some l => some (x :: l)
      | none => none)
    | _ => none)
def rowIs (K : PySem.W.Frag) (d : Addr) (x : Str) (i : Int) : Bool := match PySem.W.nsIn K d x with
  | some (some (.int j _)) => decide (j = i)
  | _ => false
theorem keysLit_of {P : Params} : ∀ {l : List DictEntry} {ks : List Str}, keyT l = some ks → l.map (·.hash) = ks.map (PyData.keyHash P) → PySem.W.KeysLit P l
  | [], ks, _, _ => True.intro
  | e :: r, ks, h1, h2 => by
    unfold keyT at h1
    cases q : e.key with
    | str x t =>
      rw [q] at h1
      cases q2 : keyT r with
      | none => rw [q2] at h1; cases h1
      | some l =>
        rw [q2] at h1
        have h3 : some (x :: l) = some ks := h1
        cases h3
        rw [List.map_cons, List.map_cons] at h2
        injection h2 with h4 h5
        exact ⟨⟨x, t, q, h4⟩, keysLit_of q2 h5⟩
    | _ => rw [q] at h1; cases h1
/-- what else the head tells: the code objects, their tables, the sizes -/
structure MoreH (w : World) (K : PySem.W.Frag) (ts : List Addr) : Prop where
  codeB : cIs K "_law_by_hand" = true
  codeL : cIs K "law" = true
  hdB : PySem.W.codeHdIn K (cAd K "_law_by_hand") (pAd K (cAd K "_law_by_hand")) = true
  hdL : PySem.W.codeHdIn K (cAd K "law") (pAd K (cAd K "law")) = true
  tB : ts.contains (pAd K (cAd K "_law_by_hand")) = true
  tL : ts.contains (pAd K (cAd K "law")) = true
  nB : K.lookup (pAd K (cAd K "_law_by_hand")) = none
  nL : K.lookup (pAd K (cAd K "law")) = none
  ne : Nat.beq (pAd K (cAd K "_law_by_hand")) (pAd K (cAd K "law")) = false
  sz : K.lookup (He.ga K "SIZES") = some ⟨.type "dict", none, .dict (esOf K (He.ga K "SIZES")) (nOf K (He.ga K "SIZES")), #[]⟩
  szk : keyT (esOf K (He.ga K "SIZES")).toList = some [("row" : Str), "open", "wait"]
  szh : (esOf K (He.ga K "SIZES")).toList.map (·.hash) = [("row" : Str), "open", "wait"].map (PyData.keyHash w.params)
  szl : (He.ga K "SIZES" == sysModules) = false
  szv : (rowIs K (He.ga K "SIZES") "row" 4 && (rowIs K (He.ga K "SIZES") "open" 4 && rowIs K (He.ga K "SIZES") "wait" 3)) = true
section
variable {w : World} {K : PySem.W.Frag} {h : Heap} {mg : Str → Option Value} {ts : List Addr}
theorem cst_of {x : Str} {i : Int} (h : ∃ t, mg x = some (.int i t)) : Cst mg x i := let ⟨t, e⟩ := h; ⟨_, e, t, rfl⟩
theorem cstS_of {x z : Str} (h : ∃ t, mg x = some (.str z t)) : CstS mg x z := let ⟨t, e⟩ := h; ⟨_, e, t, rfl⟩
theorem rowIs_ok {d : Addr} {x : Str} {i : Int} (h : rowIs K d x i = true) : ∃ u, PySem.W.nsIn K d x = some (some u) ∧ RelV (V.int i) u := by
  unfold rowIs at h
  cases e : PySem.W.nsIn K d x with
  | none => rw [e] at h; cases h
  | some o =>
    rw [e] at h
    cases o with
    | none => cases h
    | some v =>
      cases v with
      | int j t =>
        have ej : j = i := of_decide_eq_true h
        exact ⟨_, rfl, t, by rw [ej]⟩
      | _ => cases h
theorem sz_of (m : MoreH w K ts) (hm : mg "SIZES" = some (.ref (He.ga K "SIZES"))) : SzC K w mg := by
  obtain ⟨v1, v2⟩ := He.ba m.szv
  obtain ⟨v2, v3⟩ := He.ba v2
  refine ⟨_, _, _, ⟨m.sz, keysLit_of m.szk m.szh, m.szl⟩, hm, fun p hp => ?_⟩
  rcases List.mem_cons.mp hp with rfl | hp
  · exact rowIs_ok v1
  rcases List.mem_cons.mp hp with rfl | hp
  · exact rowIs_ok v2
  rcases List.mem_cons.mp hp with rfl | hp
  · exact rowIs_ok v3
  · cases hp
theorem df_of {nm : Str} {st : Stmt} {fa : List He.Fa} {fn : List He.FnD} (X : K.In h) (G : h.Ns mainGlobals mg) (c : He.SaysE fa fn K) {i j k : Nat} (hi : fn[i]? = some (dN nm st)) (hj : fa[j]? = some (.glo nm)) (hk : fa[k]? = some (.keep nm)) : Df K mg nm st := by
  obtain ⟨oc, od, osl, kV, doc, pm, an, cdv, ct, l1, l2⟩ := c.def_ i hi
  exact ⟨_, _, fun_mk (st := st) l1 l2 (He.keep_ok (c.fact k hk)), He.glo_ok X G (c.fact j hj)⟩
theorem funC_of {nm : Str} {st : Stmt} {fa : List He.Fa} {fn : List He.FnD} (c : He.SaysE fa fn K) (hc : cIs K nm = true) {i k : Nat} (hi : fn[i]? = some (dN nm st)) (hk : fa[k]? = some (.keep nm)) : ∃ fd, FunC K nm st (He.ga K nm) fd (cAd K nm) := by
  obtain ⟨oc, od, osl, kV, doc, pm, an, cdv, ct, l1, l2⟩ := c.def_ i hi
  have l1' : K.lookup (He.ga K nm) = some ⟨oc, od, .func (PySem.W.fnOf nm nm (defArgs st) (defBody st) (defScope st) .none kV doc pm an cdv ct), osl⟩ := l1
  have e1 : cdv = .ref (cAd K nm) := by
    unfold cIs at hc
    unfold cAd
    rw [l1'] at hc ⊢
    cases cdv with
    | ref a => rfl
    | _ => cases hc
  subst e1
  exact ⟨_, ⟨_, _, _, _, _, _, _, _, rfl, l1', l2⟩, He.keep_ok (c.fact k hk)⟩
/-- the callees that the law and the world by hand lean on -/
structure AllC (P : Program) (w : World) (K : PySem.W.Frag) (mg : Str → Option Value) (base : Heap) (CS : Addr) : Prop where
  Standing : MakP P w K mg base CS 6 "Standing" R_std
  check_easy : CalP P w K mg base 6 "check_easy" (spD CS R_check_easy)
  is_listed : CalP P w K mg base 1 "is_listed" (spD CS R_is_listed)
  is_wish : CalP P w K mg base 5 "is_wish" (spD CS R_is_wish)
  let_by : CalP P w K mg base 11 "let_by" (spD CS R_let_by)
  behind_of : CalP P w K mg base 10 "behind_of" (spD CS R_behind_of)
  L_lets : CalP P w K mg base 5 "_law_lets" (spD CS R_L_lets)
  L_can : CalP P w K mg base 3 "_law_can" (spD CS R_L_can)
  L_hand : CalP P w K mg base 2 "_law_hand" (spHand CS K)
  L_draw : CalP P w K mg base 1 "_law_draw" (spH CS R_L_draw)
  L_parts : CalP P w K mg base 6 "_law_parts" (spH CS R_L_parts)
  L_fine : CalP P w K mg base 5 "_law_fine" (spD CS R_L_fine)
  L_loads : CalP P w K mg base 4 "_law_loads" (spD CS R_L_loads)
  L_led : CalP P w K mg base 6 "_law_led" (spH CS R_L_led)
  L_is_course : CalP P w K mg base 3 "_law_is_course" (spD CS R_L_is_course)
  course : CalP P w K mg base 6 "course" (spD CS R_course)
theorem sc_bh : FnScope N_bh [] (defScope s_L_by_hand) := ⟨rfl, rfl, rfl, by decide +kernel, rfl, by decide +kernel, by decide +kernel⟩
theorem sc_lw : FnScope N_lw ["_law_script"] (defScope s_law) := ⟨rfl, rfl, rfl, by decide +kernel, rfl, by decide +kernel, by decide +kernel⟩
theorem nv_bh : ¬ Vis (defScope s_L_by_hand) "#" := by unfold Vis; decide +kernel
theorem nv_lw : ¬ Vis (defScope s_law) "#" := by unfold Vis; decide +kernel
/-- the law's promise: it answers True -/
def spLaw (K : PySem.W.Frag) (T : List (Addr × Str)) : Sp := fun vs H Q _ => ∃ (a : Addr) (ns : List Int), vs = [.ref a] ∧ SqL K H a (ns.map V.int) ∧ ns.length ≤ 63 ∧ LamX.Tabs T H ∧ ∀ H', Q (.bl true) H'
theorem FnOk_law {P : Program} {base : Heap} {CS f c : Addr} {fd : FuncData} {T : List (Addr × Str)} (F : FunC K "law" s_law f fd c) (hg : Glb mg)
    (hb : ∀ X, CxI P w K mg base X → Ctx X (defScope s_law) N_lw V_law V_law G_law → X.env.code = .ref c → X.env.qual = "law" ++ ".<locals>." → Room 15 X.A → ∀ (a : Addr) (ns : List Int), ns.length ≤ 63 →
      PSs X (defBody s_law) (fun D σ H => (∃ a, σ[0]? = some (some (V.ref a)) ∧ SqL X.K H a (ns.map V.int)) ∧ tS CS [some (.im (.adr a)), none, none, none, none, none, none, none, none, none, none, some (.tb T)] (Pr (.bl true)) D σ H)) : FnOk P w K mg base CX0 16 f fd ["_law_script"] (spLaw K T) := by
  obtain ⟨oc, od, kV, doc, pm, an, ct, osl, rfl, lk, hcd⟩ := F.ex
  refine fn_of lk hcd sc_lw (fun vs H Q E h => by obtain ⟨a, ns, rfl, _⟩ := h; rfl) fun A outer s H vs Q E hr h => ?_
  obtain ⟨a, ns, rfl, hS, hlen, hT, hk⟩ := h
  have hx := hb (cxOf CX0 P w K mg base N_lw "law" (defScope s_law) f (.ref c) A outer s H E).nox ⟨rfl, rfl, rfl, rfl, rfl⟩ (Ctx.body ok_lw sc_lw.nd hg) rfl rfl hr a ns hlen
  refine ⟨_, (pss_ph hx (i := 11) (ph := "#") rfl nv_lw).nox, ⟨a, rfl, hS⟩, fun _ => False, ⟨fun _ => False, fun _ => False, T⟩, ?_, (fun σ' H' A' δ' z => by cases z), fun σ' H' A' δ' d v z ex sr rp => ?_, fun _ _ _ _ z => z.elim, fun _ _ _ _ z => z.elim⟩
  · refine (start_sr (B := ⟨fun _ => False, fun _ => False, T⟩) (A := fun _ => False) (N := N_lw) (ss := [.im (.adr a)]) ⟨hT, fun _ c q _ z => by rcases z with (z | z) | z <;> exact z⟩ rfl (fun a z => by rcases z with (z | z) | z <;> exact z.elim) (fun i t v ei ev => ?_) (fun i j t t' l ei _ y => ?_)).setT (i := 11) (lt_of rfl) rfl
    · match i with
      | 0 => cases ei; cases ev; exact rfl
      | i + 1 => simp at ei
    · match i with
      | 0 => cases ei; cases y
      | i + 1 => simp at ei
  · have ed : d = .bl true := z
    subst ed
    have ev : v = .bl true := rp
    subst ev
    exact hk H'
theorem end_at {l : PySem.W.OpenLaw} {CS : Addr} {fB fL : FuncData} (X : K.In h) (hT : ∀ P ∈ ts, h.get? P = some (PySem.W.tabObj #[])) (m : MoreH w K ts) (FB : FunC K "_law_by_hand" s_L_by_hand (He.ga K "_law_by_hand") fB (cAd K "_law_by_hand")) (mB : mg "_law_by_hand" = some (.ref (He.ga K "_law_by_hand")))
    (FL : FunC K "law" s_law (He.ga K "law") fL (cAd K "law")) (hg : Glb mg) (S : StdC K CS) (Dw : Df K mg "watched" s_watched) (m1 : CstS mg "SAME" "") (m2 : CstS mg "SHY" "shy") (m3 : CstS mg "FREE" "free") (C : ∀ base : Heap, AllC l.prog w K mg base CS) :
    LamX.LawAtS l w K CX0 16 63 "_law_script" mg (He.ga K "law") h := by
  have tB := hT _ (List.contains_iff_mem.mp m.tB)
  have tL := hT _ (List.contains_iff_mem.mp m.tL)
  have ne : pAd K (cAd K "_law_by_hand") ≠ pAd K (cAd K "law") := Nat.ne_of_beq_eq_false m.ne
  have hB := PySem.W.codeHd_of_K X m.hdB
  have hL := PySem.W.codeHd_of_K X m.hdL
  refine ⟨fL, [(cAd K "_law_by_hand", pAd K (cAd K "_law_by_hand")), (cAd K "law", pAd K (cAd K "law"))], spLaw K [(pAd K (cAd K "_law_by_hand"), "_law_by_hand" ++ ".<locals>." ++ "<lambda>"), (pAd K (cAd K "law"), "law" ++ ".<locals>." ++ "<lambda>")], ?_, ?_, ?_, ?_, ?_, ?_⟩
  · intro p hp
    rcases List.mem_cons.mp hp with rfl | hp
    · exact tB
    rcases List.mem_cons.mp hp with rfl | hp
    · exact tL
    · cases hp
  · intro p hp
    rcases List.mem_cons.mp hp with rfl | hp
    · exact m.nB
    rcases List.mem_cons.mp hp with rfl | hp
    · exact m.nL
    · cases hp
  · intro p hp
    rcases List.mem_cons.mp hp with rfl | hp
    · exact hB
    rcases List.mem_cons.mp hp with rfl | hp
    · exact hL
    · cases hp
  · intro s u
    obtain ⟨oc, od, kV, doc, pm, an, ct, osl, rfl, lk, hcd⟩ := FL.ex
    exact .of_eq rfl
  · intro H a ns hl _ hH hS
    refine ⟨a, ns, rfl, hS, hl, fun p hp => ?_, fun _ => rfl⟩
    rcases List.mem_cons.mp hp with rfl | hp
    · exact .nil (hH (_, _) (.head _))
    rcases List.mem_cons.mp hp with rfl | hp
    · exact .nil (hH (_, _) (.tail _ (.head _)))
    · cases hp
  · intro base _ _ TB
    have c := C base
    generalize l.prog = P at c ⊢
    have c_by_hand : CalP P w K mg base 14 "_law_by_hand" (spT [(pAd K (cAd K "_law_by_hand"), "_law_by_hand" ++ ".<locals>." ++ "<lambda>"), (pAd K (cAd K "law"), "law" ++ ".<locals>." ++ "<lambda>")]) := by
      refine ⟨_, _, [], FnOk_T (CS := CS) (ph := "#") (i := 3) FB sc_bh ok_bh hg rfl nv_bh (fun X hX CX h1 h2 hr => ?_), mB, FB.kp, ?_⟩
      · obtain ⟨rfl, rfl, rfl, rfl, rfl⟩ := hX
        refine b_L_by_hand (c := cAd _ "_law_by_hand") (Pt := pAd _ (cAd _ "_law_by_hand")) CX hr S Dw m1 m2 m3 c.Standing c.check_easy c.is_listed c.is_wish c.let_by c.behind_of c.L_lets c.L_can (List.cons_ne_nil _ _) (TB (_, _) (.head _)) h1 (by rw [h2]; exact .head _) (fun p hp e => ?_)
        rw [h2]
        rcases List.mem_cons.mp hp with rfl | hp
        · rfl
        rcases List.mem_cons.mp hp with rfl | hp
        · exact absurd e.symm ne
        · cases hp
      · obtain ⟨oc, od, kV, doc, pm, an, ct, osl, rfl, lk, hcd⟩ := FB.ex
        exact (L2.Fun.mk ⟨oc, od, kV, doc, pm, an, _, ct, osl, rfl, lk, hcd⟩ FB.kp : L2.Fun K "_law_by_hand" "_law_by_hand" s_L_by_hand _ _).binds fun _ _ _ _ _ _ us hl => match us, hl with | [], _ => rfl
    refine FnOk_law (CS := CS) FL hg fun X hX CX h1 h2 hr a ns hlen => ?_
    obtain ⟨rfl, rfl, rfl, rfl, rfl⟩ := hX
    refine b_law (c := cAd _ "law") (Pt := pAd _ (cAd _ "law")) hlen CX hr S Dw m1 m2 m3 c.Standing c.check_easy c.is_listed c.is_wish c.let_by c.behind_of c.L_lets c.L_can c.L_hand c.L_draw c.L_parts c.L_fine c.L_loads c.L_led c.L_is_course c.course c_by_hand (List.cons_ne_nil _ _) (TB (_, _) (.tail _ (.head _))) h1 (by rw [h2]; exact .tail _ (.head _)) (fun p hp e => ?_)
    rw [h2]
    rcases List.mem_cons.mp hp with rfl | hp
    · exact absurd e ne
    rcases List.mem_cons.mp hp with rfl | hp
    · rfl
    · cases hp
end
theorem all_at {l : PySem.W.OpenLaw} {w : World} {K : PySem.W.Frag} {h : Heap} {mg : Str → Option Value} {fa : Addr} {ts : List Addr} (X : K.In h) (G : h.Ns mainGlobals mg) (hfa : mg "law" = some (.ref fa)) (c : He.SaysE faL fnL K) (m : MoreH w K ts) (hT : ∀ P ∈ ts, h.get? P = some (PySem.W.tabObj #[])) :
    LamX.LawAtS l w K CX0 16 63 "_law_script" mg fa h := by
  have hg : Glb mg := ⟨He.free_ok X G (c.fact 132), He.free_ok X G (c.fact 133), He.free_ok X G (c.fact 134), He.free_ok X G (c.fact 135), He.free_ok X G (c.fact 136), He.free_ok X G (c.fact 137), He.free_ok X G (c.fact 138), He.free_ok X G (c.fact 139), He.free_ok X G (c.fact 140), He.free_ok X G (c.fact 141), He.free_ok X G (c.fact 142), He.free_ok X G (c.fact 143), He.free_ok X G (c.fact 144), He.free_ok X G (c.fact 145), He.free_ok X G (c.fact 146), He.free_ok X G (c.fact 147)⟩
  have k_MOST_CELLS : Cst mg "MOST_CELLS" (10 ^ 30) := cst_of (He.int_ok X G (c.fact 121))
  have k_MOST_HEAD : Cst mg "MOST_HEAD" (10 ^ 40) := cst_of (He.int_ok X G (c.fact 122))
  have k_MOST_DEEDS : Cst mg "MOST_DEEDS" (200) := cst_of (He.int_ok X G (c.fact 123))
  have k_ROW : CstS mg "ROW" "row" := cstS_of (He.str_ok X G (c.fact 124))
  have k_OPEN : CstS mg "OPEN" "open" := cstS_of (He.str_ok X G (c.fact 125))
  have k_WAIT : CstS mg "WAIT" "wait" := cstS_of (He.str_ok X G (c.fact 126))
  have k_WRITE : CstS mg "WRITE" "write" := cstS_of (He.str_ok X G (c.fact 127))
  have k_GO : CstS mg "GO" "go" := cstS_of (He.str_ok X G (c.fact 128))
  have k_SAME : CstS mg "SAME" "" := cstS_of (He.str_ok X G (c.fact 129))
  have k_SHY : CstS mg "SHY" "shy" := cstS_of (He.str_ok X G (c.fact 130))
  have k_FREE : CstS mg "FREE" "free" := cstS_of (He.str_ok X G (c.fact 131))
  have hStd : mg "Standing" = some (.ref (He.ga K "Standing")) := He.glo_ok X G (c.fact 114)
  have S : StdC K (He.ga K "Standing") := ⟨He.cls_ok (c.fact 115), He.noat_ok (c.fact 116), He.noat_ok (c.fact 117), He.noat_ok (c.fact 118)⟩
  have M_Standing := He.mkr_ok (K := K) (x := "Standing") (c.fact 119)
  have me := He.meth_ok (K := K) (x := "Standing") (m := "__init__") (c.fact 120)
  obtain ⟨fI, F_Standing⟩ : ∃ fd, L2.Fun K "__init__" "Standing.__init__" s_Standing_init (He.ma K (He.ga K "Standing") "__init__") fd := by
    obtain ⟨oc, od, osl, kV, doc, pm, an, cdv, ct, l1, l2⟩ := c.def_ 57
    exact ⟨_, fun_mk (st := s_Standing_init) l1 l2 me.kp⟩
  have Z : SzC K w mg := sz_of m (He.glo_ok X G (c.fact 148))
  have d_is_integer : Df K mg "is_integer" s_is_integer := df_of X G c (i := 0) (j := 0) (k := 1) rfl rfl rfl
  have d_is_within : Df K mg "is_within" s_is_within := df_of X G c (i := 1) (j := 2) (k := 3) rfl rfl rfl
  have d_is_number : Df K mg "is_number" s_is_number := df_of X G c (i := 2) (j := 4) (k := 5) rfl rfl rfl
  have d_is_triple : Df K mg "is_triple" s_is_triple := df_of X G c (i := 3) (j := 6) (k := 7) rfl rfl rfl
  have d_is_listed : Df K mg "is_listed" s_is_listed := df_of X G c (i := 4) (j := 8) (k := 9) rfl rfl rfl
  have d_is_lot : Df K mg "is_lot" s_is_lot := df_of X G c (i := 5) (j := 10) (k := 11) rfl rfl rfl
  have d_waited_for : Df K mg "waited_for" s_waited_for := df_of X G c (i := 6) (j := 12) (k := 13) rfl rfl rfl
  have d_is_first_behind : Df K mg "is_first_behind" s_is_first_behind := df_of X G c (i := 7) (j := 14) (k := 15) rfl rfl rfl
  have d_is_waits : Df K mg "is_waits" s_is_waits := df_of X G c (i := 8) (j := 16) (k := 17) rfl rfl rfl
  have d_first_wrong : Df K mg "first_wrong" s_first_wrong := df_of X G c (i := 9) (j := 18) (k := 19) rfl rfl rfl
  have d_first_in_ring : Df K mg "first_in_ring" s_first_in_ring := df_of X G c (i := 10) (j := 20) (k := 21) rfl rfl rfl
  have d_is_too_far : Df K mg "is_too_far" s_is_too_far := df_of X G c (i := 11) (j := 22) (k := 23) rfl rfl rfl
  have d_waits_of : Df K mg "waits_of" s_waits_of := df_of X G c (i := 12) (j := 24) (k := 25) rfl rfl rfl
  have d_loads_of : Df K mg "loads_of" s_loads_of := df_of X G c (i := 13) (j := 26) (k := 27) rfl rfl rfl
  have d_too_heavy : Df K mg "too_heavy" s_too_heavy := df_of X G c (i := 14) (j := 28) (k := 29) rfl rfl rfl
  have d_easy : Df K mg "easy" s_easy := df_of X G c (i := 15) (j := 30) (k := 31) rfl rfl rfl
  have d_raw_standing : Df K mg "raw_standing" s_raw_standing := df_of X G c (i := 16) (j := 32) (k := 33) rfl rfl rfl
  have d_is_deed : Df K mg "is_deed" s_is_deed := df_of X G c (i := 17) (j := 34) (k := 35) rfl rfl rfl
  have d_is_row_wish : Df K mg "is_row_wish" s_is_row_wish := df_of X G c (i := 18) (j := 36) (k := 37) rfl rfl rfl
  have d_is_open_wish : Df K mg "is_open_wish" s_is_open_wish := df_of X G c (i := 19) (j := 38) (k := 39) rfl rfl rfl
  have d_is_wait_wish : Df K mg "is_wait_wish" s_is_wait_wish := df_of X G c (i := 20) (j := 40) (k := 41) rfl rfl rfl
  have d_is_wish : Df K mg "is_wish" s_is_wish := df_of X G c (i := 21) (j := 42) (k := 43) rfl rfl rfl
  have d_renumbered : Df K mg "renumbered" s_renumbered := df_of X G c (i := 22) (j := 44) (k := 45) rfl rfl rfl
  have d_written_many : Df K mg "written_many" s_written_many := df_of X G c (i := 23) (j := 46) (k := 47) rfl rfl rfl
  have d_behind_row : Df K mg "behind_row" s_behind_row := df_of X G c (i := 24) (j := 48) (k := 49) rfl rfl rfl
  have d_behind_open : Df K mg "behind_open" s_behind_open := df_of X G c (i := 25) (j := 50) (k := 51) rfl rfl rfl
  have d_behind_wait : Df K mg "behind_wait" s_behind_wait := df_of X G c (i := 26) (j := 52) (k := 53) rfl rfl rfl
  have d_behind_of : Df K mg "behind_of" s_behind_of := df_of X G c (i := 27) (j := 54) (k := 55) rfl rfl rfl
  have d_check_easy : Df K mg "check_easy" s_check_easy := df_of X G c (i := 28) (j := 56) (k := 57) rfl rfl rfl
  have d_let_by : Df K mg "let_by" s_let_by := df_of X G c (i := 29) (j := 58) (k := 59) rfl rfl rfl
  have d_L_closure : Df K mg "_law_closure" s_L_closure := df_of X G c (i := 30) (j := 60) (k := 61) rfl rfl rfl
  have d_L_claim : Df K mg "_law_claim" s_L_claim := df_of X G c (i := 31) (j := 62) (k := 63) rfl rfl rfl
  have d_L_load : Df K mg "_law_load" s_L_load := df_of X G c (i := 32) (j := 64) (k := 65) rfl rfl rfl
  have d_L_loads : Df K mg "_law_loads" s_L_loads := df_of X G c (i := 33) (j := 66) (k := 67) rfl rfl rfl
  have d_L_used : Df K mg "_law_used" s_L_used := df_of X G c (i := 34) (j := 68) (k := 69) rfl rfl rfl
  have d_L_fine : Df K mg "_law_fine" s_L_fine := df_of X G c (i := 35) (j := 70) (k := 71) rfl rfl rfl
  have d_L_numbered : Df K mg "_law_numbered" s_L_numbered := df_of X G c (i := 36) (j := 72) (k := 73) rfl rfl rfl
  have d_L_aged : Df K mg "_law_aged" s_L_aged := df_of X G c (i := 37) (j := 74) (k := 75) rfl rfl rfl
  have d_L_behind : Df K mg "_law_behind" s_L_behind := df_of X G c (i := 38) (j := 76) (k := 77) rfl rfl rfl
  have d_L_draw : Df K mg "_law_draw" s_L_draw := df_of X G c (i := 39) (j := 78) (k := 79) rfl rfl rfl
  have d_L_waits : Df K mg "_law_waits" s_L_waits := df_of X G c (i := 40) (j := 80) (k := 81) rfl rfl rfl
  have d_L_deeds : Df K mg "_law_deeds" s_L_deeds := df_of X G c (i := 41) (j := 82) (k := 83) rfl rfl rfl
  have d_L_parts : Df K mg "_law_parts" s_L_parts := df_of X G c (i := 42) (j := 84) (k := 85) rfl rfl rfl
  have d_L_wish : Df K mg "_law_wish" s_L_wish := df_of X G c (i := 43) (j := 86) (k := 87) rfl rfl rfl
  have d_L_lets : Df K mg "_law_lets" s_L_lets := df_of X G c (i := 44) (j := 88) (k := 89) rfl rfl rfl
  have d_L_led : Df K mg "_law_led" s_L_led := df_of X G c (i := 45) (j := 90) (k := 91) rfl rfl rfl
  have d_going_order : Df K mg "going_order" s_going_order := df_of X G c (i := 46) (j := 92) (k := 93) rfl rfl rfl
  have d_course : Df K mg "course" s_course := df_of X G c (i := 47) (j := 94) (k := 95) rfl rfl rfl
  have d_L_is_whole : Df K mg "_law_is_whole" s_L_is_whole := df_of X G c (i := 48) (j := 96) (k := 97) rfl rfl rfl
  have d_L_step : Df K mg "_law_step" s_L_step := df_of X G c (i := 49) (j := 98) (k := 99) rfl rfl rfl
  have d_L_is_course : Df K mg "_law_is_course" s_L_is_course := df_of X G c (i := 50) (j := 100) (k := 101) rfl rfl rfl
  have d_L_moves : Df K mg "_law_moves" s_L_moves := df_of X G c (i := 51) (j := 102) (k := 103) rfl rfl rfl
  have d_L_can : Df K mg "_law_can" s_L_can := df_of X G c (i := 52) (j := 104) (k := 105) rfl rfl rfl
  have d_L_hand : Df K mg "_law_hand" s_L_hand := df_of X G c (i := 53) (j := 106) (k := 107) rfl rfl rfl
  have d_watched : Df K mg "watched" s_watched := df_of X G c (i := 54) (j := 108) (k := 109) rfl rfl rfl
  have d_L_by_hand : Df K mg "_law_by_hand" s_L_by_hand := df_of X G c (i := 55) (j := 110) (k := 111) rfl rfl rfl
  obtain ⟨fB, FB⟩ := funC_of (nm := "_law_by_hand") (st := s_L_by_hand) c m.codeB (i := 55) (k := 111) rfl rfl
  obtain ⟨fL, FL⟩ := funC_of (nm := "law") (st := s_law) c m.codeL (i := 56) (k := 113) rfl rfl
  have efa : fa = He.ga K "law" := by
    have e := hfa.symm.trans (He.glo_ok X G (c.fact 112))
    cases e
    rfl
  subst efa
  have mB : mg "_law_by_hand" = some (.ref (He.ga K "_law_by_hand")) := He.glo_ok X G (c.fact 110)
  refine end_at X hT m FB mB FL hg S d_watched k_SAME k_SHY k_FREE fun base => ?_
  have c_is_integer : CalP l.prog w K mg base 1 "is_integer" (spD (He.ga K "Standing") R_is_integer) := c_is_integer d_is_integer hg
  have c_is_within : CalP l.prog w K mg base 2 "is_within" (spD (He.ga K "Standing") R_is_within) := c_is_within d_is_within hg c_is_integer
  have c_is_number : CalP l.prog w K mg base 3 "is_number" (spD (He.ga K "Standing") R_is_number) := c_is_number d_is_number hg c_is_within
  have c_is_triple : CalP l.prog w K mg base 1 "is_triple" (spD (He.ga K "Standing") R_is_triple) := c_is_triple d_is_triple hg
  have c_is_listed : CalP l.prog w K mg base 1 "is_listed" (spD (He.ga K "Standing") R_is_listed) := c_is_listed d_is_listed hg
  have c_is_lot : CalP l.prog w K mg base 3 "is_lot" (spD (He.ga K "Standing") R_is_lot) := c_is_lot d_is_lot hg c_is_within
  have c_waited_for : CalP l.prog w K mg base 2 "waited_for" (spD (He.ga K "Standing") R_waited_for) := c_waited_for d_waited_for hg
  have c_is_first_behind : CalP l.prog w K mg base 3 "is_first_behind" (spD (He.ga K "Standing") R_is_first_behind) := c_is_first_behind d_is_first_behind hg c_is_within
  have c_is_waits : CalP l.prog w K mg base 4 "is_waits" (spD (He.ga K "Standing") R_is_waits) := c_is_waits d_is_waits hg c_is_lot
  have c_first_wrong : CalP l.prog w K mg base 5 "first_wrong" (spD (He.ga K "Standing") R_first_wrong) := c_first_wrong d_first_wrong hg k_MOST_CELLS c_is_triple c_is_first_behind c_is_number c_is_waits
  have c_first_in_ring : CalP l.prog w K mg base 3 "first_in_ring" (spD (He.ga K "Standing") R_first_in_ring) := c_first_in_ring d_first_in_ring hg c_waited_for
  have c_is_too_far : CalP l.prog w K mg base 1 "is_too_far" (spD (He.ga K "Standing") R_is_too_far) := c_is_too_far d_is_too_far hg
  have c_Standing : MakP l.prog w K mg base (He.ga K "Standing") 6 "Standing" R_std := c_Standing F_Standing hStd M_Standing hg S k_MOST_CELLS k_MOST_HEAD k_MOST_DEEDS c_is_within c_is_number c_first_wrong c_is_too_far c_first_in_ring
  have c_waits_of : CalP l.prog w K mg base 1 "waits_of" (spD (He.ga K "Standing") R_waits_of) := c_waits_of d_waits_of hg S
  have c_loads_of : CalP l.prog w K mg base 3 "loads_of" (spD (He.ga K "Standing") R_loads_of) := c_loads_of d_loads_of hg S c_waits_of c_waited_for
  have c_too_heavy : CalP l.prog w K mg base 4 "too_heavy" (spD (He.ga K "Standing") R_too_heavy) := c_too_heavy d_too_heavy hg S c_loads_of
  have c_easy : CalP l.prog w K mg base 5 "easy" (spD (He.ga K "Standing") R_easy) := c_easy d_easy hg c_too_heavy
  have c_raw_standing : CalP l.prog w K mg base 8 "raw_standing" (spD (He.ga K "Standing") R_raw_standing) := c_raw_standing d_raw_standing hg S c_Standing
  have c_is_deed : CalP l.prog w K mg base 3 "is_deed" (spD (He.ga K "Standing") R_is_deed) := c_is_deed d_is_deed hg S c_is_within
  have c_is_row_wish : CalP l.prog w K mg base 4 "is_row_wish" (spD (He.ga K "Standing") R_is_row_wish) := c_is_row_wish d_is_row_wish hg k_MOST_CELLS c_is_deed c_is_within c_is_number
  have c_is_open_wish : CalP l.prog w K mg base 4 "is_open_wish" (spD (He.ga K "Standing") R_is_open_wish) := c_is_open_wish d_is_open_wish hg S k_MOST_CELLS k_MOST_DEEDS c_is_number c_is_lot
  have c_is_wait_wish : CalP l.prog w K mg base 4 "is_wait_wish" (spD (He.ga K "Standing") R_is_wait_wish) := c_is_wait_wish d_is_wait_wish hg c_is_deed c_waits_of c_waited_for
  have c_is_wish : CalP l.prog w K mg base 5 "is_wish" (spD (He.ga K "Standing") R_is_wish) := c_is_wish d_is_wish hg Z k_ROW k_OPEN k_WAIT c_is_row_wish c_is_open_wish c_is_wait_wish
  have c_renumbered : CalP l.prog w K mg base 1 "renumbered" (spD (He.ga K "Standing") R_renumbered) := c_renumbered d_renumbered hg
  have c_written_many : CalP l.prog w K mg base 1 "written_many" (spD (He.ga K "Standing") R_written_many) := c_written_many d_written_many hg
  have c_behind_row : CalP l.prog w K mg base 9 "behind_row" (spD (He.ga K "Standing") R_behind_row) := c_behind_row d_behind_row hg S c_written_many c_raw_standing c_renumbered
  have c_behind_open : CalP l.prog w K mg base 9 "behind_open" (spD (He.ga K "Standing") R_behind_open) := c_behind_open d_behind_open hg S c_written_many c_raw_standing c_renumbered
  have c_behind_wait : CalP l.prog w K mg base 9 "behind_wait" (spD (He.ga K "Standing") R_behind_wait) := c_behind_wait d_behind_wait hg S c_raw_standing
  have c_behind_of : CalP l.prog w K mg base 10 "behind_of" (spD (He.ga K "Standing") R_behind_of) := c_behind_of d_behind_of hg k_ROW k_OPEN c_behind_row c_behind_open c_behind_wait
  have c_check_easy : CalP l.prog w K mg base 6 "check_easy" (spD (He.ga K "Standing") R_check_easy) := c_check_easy d_check_easy hg c_easy
  have c_let_by : CalP l.prog w K mg base 11 "let_by" (spD (He.ga K "Standing") R_let_by) := c_let_by d_let_by hg c_easy c_behind_of
  have c_L_closure : CalP l.prog w K mg base 1 "_law_closure" (spD (He.ga K "Standing") R_L_closure) := c_L_closure d_L_closure hg
  have c_L_claim : CalP l.prog w K mg base 2 "_law_claim" (spD (He.ga K "Standing") R_L_claim) := c_L_claim d_L_claim hg c_L_closure
  have c_L_load : CalP l.prog w K mg base 3 "_law_load" (spD (He.ga K "Standing") R_L_load) := c_L_load d_L_load hg c_L_claim
  have c_L_loads : CalP l.prog w K mg base 4 "_law_loads" (spD (He.ga K "Standing") R_L_loads) := c_L_loads d_L_loads hg c_L_load
  have c_L_used : CalP l.prog w K mg base 1 "_law_used" (spD (He.ga K "Standing") R_L_used) := c_L_used d_L_used hg
  have c_L_fine : CalP l.prog w K mg base 5 "_law_fine" (spD (He.ga K "Standing") R_L_fine) := c_L_fine d_L_fine hg c_L_loads
  have c_L_numbered : CalP l.prog w K mg base 1 "_law_numbered" (spD (He.ga K "Standing") R_L_numbered) := c_L_numbered d_L_numbered hg
  have c_L_aged : CalP l.prog w K mg base 1 "_law_aged" (spD (He.ga K "Standing") R_L_aged) := c_L_aged d_L_aged hg
  have c_L_behind : CalP l.prog w K mg base 2 "_law_behind" (spD (He.ga K "Standing") R_L_behind) := c_L_behind d_L_behind hg c_L_numbered c_L_aged
  have c_L_draw : CalP l.prog w K mg base 1 "_law_draw" (spH (He.ga K "Standing") R_L_draw) := c_L_draw d_L_draw hg
  have c_L_waits : CalP l.prog w K mg base 2 "_law_waits" (spH (He.ga K "Standing") R_L_waits) := c_L_waits d_L_waits hg c_L_draw
  have c_L_deeds : CalP l.prog w K mg base 3 "_law_deeds" (spH (He.ga K "Standing") R_L_deeds) := c_L_deeds d_L_deeds hg c_L_draw c_L_waits
  have c_L_parts : CalP l.prog w K mg base 6 "_law_parts" (spH (He.ga K "Standing") R_L_parts) := c_L_parts d_L_parts hg c_L_deeds c_L_used c_L_loads c_L_draw
  have c_L_wish : CalP l.prog w K mg base 3 "_law_wish" (spH (He.ga K "Standing") R_L_wish) := c_L_wish d_L_wish hg c_L_draw c_L_closure
  have c_L_lets : CalP l.prog w K mg base 5 "_law_lets" (spD (He.ga K "Standing") R_L_lets) := c_L_lets d_L_lets hg c_L_behind c_L_loads c_L_used
  have c_L_led : CalP l.prog w K mg base 6 "_law_led" (spH (He.ga K "Standing") R_L_led) := c_L_led d_L_led hg c_L_draw c_L_wish c_L_lets c_L_fine c_L_behind
  have c_going_order : CalP l.prog w K mg base 2 "going_order" (spD (He.ga K "Standing") R_going_order) := c_going_order d_going_order hg c_waits_of
  have c_course : CalP l.prog w K mg base 6 "course" (spD (He.ga K "Standing") R_course) := c_course d_course hg S k_WRITE k_GO c_easy c_going_order
  have c_L_is_whole : CalP l.prog w K mg base 1 "_law_is_whole" (spD (He.ga K "Standing") R_L_is_whole) := c_L_is_whole d_L_is_whole hg
  have c_L_step : CalP l.prog w K mg base 2 "_law_step" (spD (He.ga K "Standing") R_L_step) := c_L_step d_L_step hg c_L_is_whole
  have c_L_is_course : CalP l.prog w K mg base 3 "_law_is_course" (spD (He.ga K "Standing") R_L_is_course) := c_L_is_course d_L_is_course hg c_L_used c_L_step
  have c_L_moves : CalP l.prog w K mg base 1 "_law_moves" (spD (He.ga K "Standing") R_L_moves) := c_L_moves d_L_moves hg
  have c_L_can : CalP l.prog w K mg base 3 "_law_can" (spD (He.ga K "Standing") R_L_can) := c_L_can d_L_can hg c_L_used c_L_moves
  have c_L_hand : CalP l.prog w K mg base 2 "_law_hand" (spHand (He.ga K "Standing") K) := c_L_hand d_L_hand hg
  exact ⟨c_Standing, c_check_easy, c_is_listed, c_is_wish, c_let_by, c_behind_of, c_L_lets, c_L_can, c_L_hand, c_L_draw, c_L_parts, c_L_fine, c_L_loads, c_L_led, c_L_is_course, c_course⟩
end K06
/-! D26: the end. -/
namespace K06
open PySem PySem.Spec L2
theorem walk {l : PySem.W.OpenLaw} {q : Program} {loose : List Str} {XP : (Str → Option Value) → Heap → Prop} {d : DefRec} {K : Params → PySem.W.Frag} {as : List Addr} {e : ∀ P, as = (K P).map (·.1)} {ts : List Addr} (hn : l.most = some 63) (hdf : d.params.defaults = []) (hd : d.name = "law")
    (c : ∀ w : World, He.SaysE faL fnL (K w.params)) (m : ∀ w : World, MoreH w (K w.params) ts) : PySem.W.WalkO q loose XP (PySem.W.kmHook K as e ts).says l.row.toRowW d [] (fun f vs => PySem.call f vs) :=
  LamX.walk_ofTs (n := 63) (k := 16) (x := "_law_script") (CX := fun _ => CX0) hn (by decide) hdf ⟨rfl, by decide, by decide⟩ (fun w h Y => PySem.W.km_in_of Y)
    (fun w mg fa h Y KX G hmg => all_at KX G (by rw [hd] at hmg; exact hmg) (c w) (m w) (PySem.W.km_tabs_of Y)) fun _ _ _ _ _ z => z
end K06
open PySem PySem.W PyProof.Rows
set_option maxRecDepth 100000 in
set_option maxHeartbeats 0 in
theorem PySem.Challenge.cw_ringclaims_k06_whole_keepers_of_others_w_holds : PySem.Challenge.rw_ringclaims_k06_whole_keepers_of_others_w.Holds := by
  w_on; o_law; k_head; (case hw => w_witness2)
  k_fill
  refine K06.walk (l := PySem.Challenge.rw_ringclaims_k06_whole_keepers_of_others_w) rfl rfl rfl (fun w => ?_) (fun w => ?_)
  · show He.obsE K06.faL K06.fnL _ = He.valE K06.fnL
    kernel_rfl
  · refine' ⟨?_, ?_, ?_, ?_, ?_, ?_, ?_, ?_, ?_, ?_, ?_, ?_, ?_, ?_⟩ <;> kernel_rfl

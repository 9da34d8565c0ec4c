import PyProof.Rows.All
import Wide.All
import OpenK.AllK
import Wide.FinOn
import HandS.ForMost
import HandS.ForExc
import HandS.Defaults
import HandS.CallSlots
import HandS.TryOnly
import HandS.Zip
import HandS.Wide
import HandS.IsInst
import HandS.Style
import HandS.TupAny
import HandS.TupMul
import HandS.WideBits
import HandS.SortInts
import KE.GoesEnum
import HandS.Head0
import HandS.Head1
import HandS.Head2
import HandS.HeadEnd
import HandS.HeadHook1
import HandS.HeadHook2
import HandS.HeadHook3
import HandS.HeadHook4
import HandS.FStr
import HandS.RaiseMore
import HandS.SetBool
import HandS.SetTxt0
import PyProof.Rows.SortShellAny
import HandS.Strs
import HandS.ExcField
import HandS.ExcIs
import HandS.TryMany
import HandS.Conv
import HandS.TupLe
import HandS.TupSets
import HandS.Keys
import HandS.FltList
import PySem.Challenge.RW_maybesame_k01_first_errors_of_looks
set_option Elab.async false
set_option linter.all false
set_option maxRecDepth 100000
/-! Rf, part 1: values as trees, the store, what represents what. -/
namespace Rf
open PySem L2

/-- a value as a tree; lists and dicts here are never changed again; what is changed through aliases stands in the store, by its number -/
inductive D where
  | non | bl (b : Bool) | int (i : Int) | str (x : List Nat)
  | tup (xs : List D) | lst (xs : List D)
  | obj (n : Nat) | gl (x : Str) | ty (n : String)
  /-- the law's script -/
  | scr (xs : List Int)
  /-- an empty dict, an instance of the class named c, its attributes named ns; both never changed again -/
  | edc | ins (c : Str) (ns : List Str) (xs : List D)
  deriving Inhabited

/-- what may be changed -/
inductive O where
  | lst (xs : List D)
  /-- dicts with keys that are ints and texts, with keys that are tuples of these; an instance -/
  | dK (kvs : List (Key × D)) | dT (kvs : List (List Key × D)) | ins (c : Str) (ns : List Str) (xs : List D)
  deriving Inhabited

structure Exn where
  cls : Str
  fs : List (Str × D)

/-- a result: a value and the store, an exception, or nothing is known -/
inductive R (α : Type) where
  | ok (a : α) (S : List O)
  | ex (x : Exn) (S : List O)
  | no

@[reducible] def R.bind {α β : Type} (r : R α) (f : α → List O → R β) : R β := match r with
  | .ok a S => f a S
  | .ex x S => .ex x S
  | .no => .no

/-- a local: nothing, a value, an object of the frame's own -/
inductive LV where
  | un | v (d : D) | o (o : O)
  /-- the exception that the suite holds -/
  | exc (x : Exn)
  deriving Inhabited
abbrev Ls := List LV
abbrev Sto := List O
abbrev EM := Ls → Sto → R D

/-- ghost: what is never written again, where the store's objects stand, how many they are -/
structure G where
  F : Addr → Prop
  ρ : Nat → Addr
  n : Nat

def KLst (K : PySem.W.Frag) (a : Addr) (xs : List V) : Prop :=
  ∃ (o : Obj) (its : Array Value) (n : Nat), K.lookup a = some o ∧ o.cls = .type "list" ∧ o.dict = none ∧ o.data = .seq its n ∧ its.size ≤ sizeLine ∧ Vals xs its.toList
/-- a list that is known to its object or stands in the written part -/
def ScrAt (K : PySem.W.Frag) (H : Hp) (a : Addr) (vs : List V) : Prop := (∃ o, H a = some (.frz o (.lst vs))) ∨ KLst K a vs
theorem ScrAt.sq {K : PySem.W.Frag} {H : Hp} {a : Addr} {vs : List V} (h : ScrAt K H a vs) : SqL K H a vs := by
  rcases h with ⟨o, h⟩ | h
  · exact .inl (.inr ⟨o, h⟩)
  · exact .inr h

/-- a tuple -/
def TupAt (K : PySem.W.Frag) (H : Hp) (a : Addr) (vs : List V) : Prop := H a = some (.tup vs) ∨
  (∃ (o : Obj) (its : Array Value) (n : Nat), K.lookup a = some o ∧ o.cls = .type "tuple" ∧ o.data = .seq its n ∧ its.size ≤ sizeLine ∧ Vals vs its.toList) ∧ ∃ v ∈ vs, ∀ i, v ≠ V.int i
theorem TupAt.sq {K : PySem.W.Frag} {H : Hp} {a : Addr} {vs : List V} (h : TupAt K H a vs) : SqT K H a vs := h.elim (fun h => .inl (.inl h)) fun h => .inr h.1

/-- what does not change: the written part, the module's names -/
structure Kx where
  K : PySem.W.Frag
  mg : Str → Option Value
  /-- the exception that the suite holds -/
  cur : Option (Addr × Obj)
abbrev k0 (K : PySem.W.Frag) (mg : Str → Option Value) : Kx := ⟨K, mg, none⟩

section
variable (k : Kx) (H : Hp) (g : G)
mutual
def Rep : D → V → Prop
  | .non, v => v = .non
  | .bl b, v => v = .bl b
  | .int i, v => v = .int i
  | .str x, v => v = .str ⟨x.toArray⟩
  | .tup ds, v => ∃ a vs, v = .ref a ∧ TupAt k.K H a vs ∧ RepL ds vs
  | .lst ds, v => ∃ a vs, v = .ref a ∧ g.F a ∧ H a = some (.lst vs) ∧ RepL ds vs
  | .obj n, v => n < g.n ∧ v = .ref (g.ρ n)
  | .gl x, v => ∃ a, k.mg x = some (.ref a) ∧ v = .ref a
  | .ty n, v => v = .ty n
  | .scr ns, v => ∃ a, v = .ref a ∧ ScrAt k.K H a (ns.map V.int)
  | .edc, v => ∃ a, v = .ref a ∧ g.F a ∧ H a = some (.dK [])
  | .ins c ns ds, v => ∃ a C dx vs, v = .ref a ∧ g.F a ∧ k.mg c = some (.ref C) ∧ H a = some (.ins C dx (ns.zip vs)) ∧ RepL ds vs
def RepL : List D → List V → Prop
  | [], vs => vs = []
  | d :: ds, vs => ∃ v r, vs = v :: r ∧ Rep d v ∧ RepL ds r
end
/-- an object of the store, of a frame -/
def ORep : O → Addr → Prop
  | .lst ds, a => ∃ vs, H a = some (.lst vs) ∧ RepL k H g ds vs
  | .dK kvs, a => ∃ vs, H a = some (.dK ((kvs.map (·.1)).zip vs)) ∧ RepL k H g (kvs.map (·.2)) vs
  | .dT kvs, a => ∃ vs, H a = some (.dT ((kvs.map (·.1)).zip vs)) ∧ RepL k H g (kvs.map (·.2)) vs
  | .ins c ns ds, a => ∃ C dx vs, k.mg c = some (.ref C) ∧ H a = some (.ins C dx (ns.zip vs)) ∧ RepL k H g ds vs
end

/-- what stands stays -/
structure PExt (H : Hp) (g : G) (H' : Hp) (g' : G) : Prop where
  F : ∀ a, g.F a → g'.F a
  kF : ∀ a o, g.F a → H a = some o → H' a = some o
  kT : ∀ a xs, H a = some (.tup xs) → H' a = some (.tup xs)
  kZ : ∀ a o u, H a = some (.frz o u) → H' a = some (.frz o u)
  n : g.n ≤ g'.n
  ρ : ∀ i, i < g.n → g'.ρ i = g.ρ i
/-- .. and nothing but the store's objects is changed -/
structure Ext (H : Hp) (g : G) (H' : Hp) (g' : G) : Prop extends PExt H g H' g' where
  keep : ∀ a o, H a = some o → (∀ i, i < g.n → g.ρ i ≠ a) → H' a = some o
  newF : ∀ a, g'.F a → g.F a ∨ H a = none
  newρ : ∀ i, g.n ≤ i → i < g'.n → H (g'.ρ i) = none
  tr : ∀ a o, H a = some o → ∃ u, H' a = some u

theorem PExt.refl (H : Hp) (g : G) : PExt H g H g := ⟨fun _ h => h, fun _ _ _ h => h, fun _ _ h => h, fun _ _ _ h => h, Nat.le_refl _, fun _ _ => rfl⟩
theorem PExt.trans {H H1 H2 : Hp} {g g1 g2 : G} (a : PExt H g H1 g1) (b : PExt H1 g1 H2 g2) : PExt H g H2 g2 :=
  ⟨fun x h => b.F x (a.F x h), fun x o f h => b.kF x o (a.F x f) (a.kF x o f h), fun x xs h => b.kT x xs (a.kT x xs h), fun x o u h => b.kZ x o u (a.kZ x o u h), Nat.le_trans a.n b.n,
    fun i h => (b.ρ i (Nat.lt_of_lt_of_le h a.n)).trans (a.ρ i h)⟩
theorem Ext.refl (H : Hp) (g : G) : Ext H g H g := ⟨PExt.refl H g, fun _ _ h _ => h, fun _ h => .inl h, fun i h1 h2 => absurd h2 (Nat.not_lt.mpr h1), fun _ o h => ⟨o, h⟩⟩
theorem Ext.trans {H H1 H2 : Hp} {g g1 g2 : G} (a : Ext H g H1 g1) (b : Ext H1 g1 H2 g2) : Ext H g H2 g2 where
  toPExt := a.toPExt.trans b.toPExt
  keep := fun x o h hn => b.keep x o (a.keep x o h hn) fun i hi e => by
    by_cases h1 : i < g.n
    · exact hn i h1 ((a.ρ i h1).symm.trans e)
    · have z := a.newρ i (Nat.le_of_not_lt h1) hi
      rw [e, h] at z; cases z
  newF := fun x h => by
    rcases b.newF x h with h | h
    · exact a.newF x h
    · cases q : H x with
      | none => exact .inr rfl
      | some o => obtain ⟨u, z⟩ := a.tr x o q; rw [h] at z; cases z
  newρ := fun i h1 h2 => by
    by_cases h3 : i < g1.n
    · rw [b.ρ i h3]; exact a.newρ i h1 h3
    · have z := b.newρ i (Nat.le_of_not_lt h3) h2
      cases q : H (g2.ρ i) with
      | none => rfl
      | some o => obtain ⟨u, y⟩ := a.tr _ o q; rw [z] at y; cases y
  tr := fun x o h => by
    obtain ⟨u, h⟩ := a.tr x o h
    exact b.tr x u h

section
variable {k : Kx} {H H' : Hp} {g g' : G}
theorem tupAt_mono (e : PExt H g H' g') {a : Addr} {vs : List V} (h : TupAt k.K H a vs) : TupAt k.K H' a vs := by
  rcases h with h | h
  · exact .inl (e.kT _ _ h)
  · exact .inr h
theorem scrAt_mono (e : PExt H g H' g') {a : Addr} {vs : List V} (h : ScrAt k.K H a vs) : ScrAt k.K H' a vs := by
  rcases h with ⟨o, h⟩ | h
  · exact .inl ⟨o, e.kZ _ _ _ h⟩
  · exact .inr h
mutual
theorem Rep.mono (e : PExt H g H' g') : ∀ (d : D) (v : V), Rep k H g d v → Rep k H' g' d v
  | .non, _, h => h
  | .bl _, _, h => h
  | .int _, _, h => h
  | .str _, _, h => h
  | .tup ds, _, ⟨a, vs, h1, h2, h3⟩ => ⟨a, vs, h1, tupAt_mono e h2, RepL.mono e ds vs h3⟩
  | .lst ds, _, ⟨a, vs, h1, h2, h3, h4⟩ => ⟨a, vs, h1, e.F _ h2, e.kF _ _ h2 h3, RepL.mono e ds vs h4⟩
  | .obj n, _, ⟨h1, h2⟩ => ⟨Nat.lt_of_lt_of_le h1 e.n, by rw [h2, e.ρ n h1]⟩
  | .gl _, _, h => h
  | .ty _, _, h => h
  | .scr _, _, ⟨a, h1, h2⟩ => ⟨a, h1, scrAt_mono e h2⟩
  | .edc, _, ⟨a, h1, h2, h3⟩ => ⟨a, h1, e.F _ h2, e.kF _ _ h2 h3⟩
  | .ins _ _ ds, _, ⟨a, C, dx, vs, h1, h2, h3, h4, h5⟩ => ⟨a, C, dx, vs, h1, e.F _ h2, h3, e.kF _ _ h2 h4, RepL.mono e ds vs h5⟩
theorem RepL.mono (e : PExt H g H' g') : ∀ (ds : List D) (vs : List V), RepL k H g ds vs → RepL k H' g' ds vs
  | [], _, h => h
  | d :: ds, _, ⟨v, r, h1, h2, h3⟩ => ⟨v, r, h1, Rep.mono e d v h2, RepL.mono e ds r h3⟩
end
mutual
theorem Rep.kc {k k' : Kx} (h1 : k'.K = k.K) (h2 : k'.mg = k.mg) : ∀ (d : D) (v : V), Rep k H g d v → Rep k' H g d v
  | .non, _, h => h
  | .bl _, _, h => h
  | .int _, _, h => h
  | .str _, _, h => h
  | .tup ds, _, ⟨a, vs, e1, e2, e3⟩ => ⟨a, vs, e1, by rw [h1]; exact e2, RepL.kc h1 h2 ds vs e3⟩
  | .lst ds, _, ⟨a, vs, e1, e2, e3, e4⟩ => ⟨a, vs, e1, e2, e3, RepL.kc h1 h2 ds vs e4⟩
  | .obj n, _, h => h
  | .gl _, _, ⟨a, e1, e2⟩ => ⟨a, by rw [h2]; exact e1, e2⟩
  | .ty _, _, h => h
  | .scr _, _, ⟨a, e1, e2⟩ => ⟨a, e1, by rw [h1]; exact e2⟩
  | .edc, _, h => h
  | .ins _ _ ds, _, ⟨a, C, dx, vs, e1, e2, e3, e4, e5⟩ => ⟨a, C, dx, vs, e1, e2, by rw [h2]; exact e3, e4, RepL.kc h1 h2 ds vs e5⟩
theorem RepL.kc {k k' : Kx} (h1 : k'.K = k.K) (h2 : k'.mg = k.mg) : ∀ (ds : List D) (vs : List V), RepL k H g ds vs → RepL k' H g ds vs
  | [], _, h => h
  | d :: ds, _, ⟨v, r, e1, e2, e3⟩ => ⟨v, r, e1, Rep.kc h1 h2 d v e2, RepL.kc h1 h2 ds r e3⟩
end
theorem RepL.nil : RepL k H g [] [] := rfl
theorem RepL.cons {d : D} {ds : List D} {v : V} {vs : List V} (h : Rep k H g d v) (t : RepL k H g ds vs) : RepL k H g (d :: ds) (v :: vs) := ⟨v, vs, rfl, h, t⟩
theorem RepL.length : ∀ {ds : List D} {vs : List V}, RepL k H g ds vs → vs.length = ds.length
  | [], _, h => by cases (show _ = [] from h); rfl
  | _ :: ds, _, ⟨v, r, h1, _, h3⟩ => by rw [h1, List.length_cons, List.length_cons, RepL.length h3]
theorem RepL.get : ∀ {ds : List D} {vs : List V} {i : Nat} {d : D}, RepL k H g ds vs → ds[i]? = some d → ∃ v, vs[i]? = some v ∧ Rep k H g d v
  | [], _, _, _, _, e => by simp at e
  | _ :: _, _, 0, _, ⟨v, r, h1, h2, _⟩, e => by
    simp at e; subst e; subst h1; exact ⟨v, rfl, h2⟩
  | _ :: ds, _, i + 1, d, ⟨v, r, h1, _, h3⟩, e => by
    subst h1
    obtain ⟨u, a, b⟩ := RepL.get (i := i) (d := d) h3 (by simpa using e)
    exact ⟨u, by simpa using a, b⟩
theorem RepL.append : ∀ {ds es : List D} {vs us : List V}, RepL k H g ds vs → RepL k H g es us → RepL k H g (ds ++ es) (vs ++ us)
  | [], _, _, _, h, t => by cases (show _ = [] from h); exact t
  | _ :: _, _, _, _, ⟨v, r, h1, h2, h3⟩, t => by subst h1; exact ⟨v, _, rfl, h2, RepL.append h3 t⟩
theorem RepL.take : ∀ {ds : List D} {vs : List V} (n : Nat), RepL k H g ds vs → RepL k H g (ds.take n) (vs.take n)
  | [], _, _, h => by cases (show _ = [] from h); simp; rfl
  | _ :: _, _, 0, ⟨v, r, h1, h2, h3⟩ => by subst h1; rfl
  | _ :: _, _, n + 1, ⟨v, r, h1, h2, h3⟩ => by subst h1; exact ⟨v, _, rfl, h2, RepL.take n h3⟩
theorem RepL.drop : ∀ {ds : List D} {vs : List V} (n : Nat), RepL k H g ds vs → RepL k H g (ds.drop n) (vs.drop n)
  | [], _, _, h => by cases (show _ = [] from h); simp; rfl
  | _ :: _, _, 0, h => h
  | _ :: _, _, n + 1, ⟨v, r, h1, h2, h3⟩ => by subst h1; exact RepL.drop n h3
theorem RepL.set : ∀ {ds : List D} {vs : List V} {d : D} {v : V} (i : Nat), RepL k H g ds vs → Rep k H g d v → RepL k H g (ds.set i d) (vs.set i v)
  | [], _, _, _, _, h, _ => by cases (show _ = [] from h); rfl
  | _ :: _, _, _, _, 0, ⟨v, r, h1, h2, h3⟩, q => by subst h1; exact ⟨_, _, rfl, q, h3⟩
  | _ :: _, _, _, _, i + 1, ⟨v, r, h1, h2, h3⟩, q => by subst h1; exact ⟨v, _, rfl, h2, RepL.set i h3 q⟩
theorem RepL.reverse {ds : List D} {vs : List V} (h : RepL k H g ds vs) : RepL k H g ds.reverse vs.reverse := by
  induction ds generalizing vs with
  | nil => cases (show _ = [] from h); rfl
  | cons d ds ih =>
    obtain ⟨v, r, rfl, h2, h3⟩ := h
    rw [List.reverse_cons, List.reverse_cons]
    exact (ih h3).append (.cons h2 .nil)
end

/-- the store stands in the heap -/
structure WF (k : Kx) (H : Hp) (g : G) (S : Sto) : Prop where
  len : S.length = g.n
  ob : ∀ (i : Nat) (o : O), S[i]? = some o → ORep k H g o (g.ρ i)
  inj : ∀ i j, i < g.n → j < g.n → g.ρ i = g.ρ j → i = j
  nF : ∀ i, i < g.n → ¬ g.F (g.ρ i)
  tF : ∀ a, g.F a → ∃ o, H a = some o

/-- an exception's class and its own dict -/
def XRep (k : Kx) (H : Hp) (g : G) (x : Exn) (c : Value) (d : Option Addr) : Prop :=
  ∃ C, k.mg x.cls = some (.ref C) ∧ c = .ref C ∧ ∀ f e, x.fs.lookup f = some e → ∃ a fs v, d = some a ∧ g.F a ∧ H a = some (.xd fs) ∧ fs.lookup f = some v ∧ Rep k H g e v
section
variable {k : Kx} {H H' : Hp} {g g' : G}
theorem XRep.mono (e : PExt H g H' g') {x : Exn} {c : Value} {d : Option Addr} (h : XRep k H g x c d) : XRep k H' g' x c d := by
  obtain ⟨C, h1, h2, h3⟩ := h
  refine ⟨C, h1, h2, fun f y q => ?_⟩
  obtain ⟨a, fs, v, e1, e2, e3, e4, e5⟩ := h3 f y q
  exact ⟨a, fs, v, e1, e.F _ e2, e.kF _ _ e2 e3, e4, e5.mono e _ _⟩
theorem XRep.kc {k k' : Kx} (h1 : k'.K = k.K) (h2 : k'.mg = k.mg) {x : Exn} {c : Value} {d : Option Addr} (h : XRep k H g x c d) : XRep k' H g x c d := by
  obtain ⟨C, a1, a2, a3⟩ := h
  refine ⟨C, by rw [h2]; exact a1, a2, fun f y q => ?_⟩
  obtain ⟨a, fs, v, e1, e2, e3, e4, e5⟩ := a3 f y q
  exact ⟨a, fs, v, e1, e2, e3, e4, Rep.kc h1 h2 _ _ e5⟩
theorem ORep.kc {k k' : Kx} (h1 : k'.K = k.K) (h2 : k'.mg = k.mg) {o : O} {a : Addr} (h : ORep k H g o a) : ORep k' H g o a := by
  cases o with
  | lst ds => obtain ⟨vs, e1, e2⟩ := h; exact ⟨vs, e1, RepL.kc h1 h2 _ _ e2⟩
  | dK kvs => obtain ⟨vs, e1, e2⟩ := h; exact ⟨vs, e1, RepL.kc h1 h2 _ _ e2⟩
  | dT kvs => obtain ⟨vs, e1, e2⟩ := h; exact ⟨vs, e1, RepL.kc h1 h2 _ _ e2⟩
  | ins c ns ds => obtain ⟨C, dx, vs, e0, e1, e2⟩ := h; exact ⟨C, dx, vs, by rw [h2]; exact e0, e1, RepL.kc h1 h2 _ _ e2⟩
theorem WF.kc {k k' : Kx} (h1 : k'.K = k.K) (h2 : k'.mg = k.mg) {S : Sto} (w : WF k H g S) : WF k' H g S := ⟨w.len, fun i o e => (w.ob i o e).kc h1 h2, w.inj, w.nF, w.tF⟩
end
/-- the slots that hold the caught exception -/
def ExcRel (k : Kx) (σ : L2.St) (L : Ls) (H : Hp) (g : G) : Prop := ∀ (i : Nat) (x : Exn), L[i]? = some (.exc x) → ∃ a oe, k.cur = some (a, oe) ∧ σ[i]? = some (some (.ref a)) ∧ XRep k H g x oe.cls oe.dict
section
variable {k : Kx} {H H' : Hp} {g g' : G} {σ : L2.St} {L : Ls} {i : Nat} {lv : LV}
theorem ExcRel.mono (h : ExcRel k σ L H g) (e : PExt H g H' g') : ExcRel k σ L H' g' := fun i x q => by
  obtain ⟨a, oe, h1, h2, h3⟩ := h i x q
  exact ⟨a, oe, h1, h2, h3.mono e⟩
theorem exc_at {j : Nat} {x : Exn} (hlv : ∀ x, lv ≠ .exc x) (q : (L.set i lv)[j]? = some (.exc x)) : i ≠ j ∧ L[j]? = some (.exc x) := by
  by_cases hj : i = j
  · subst hj
    by_cases hl : i < L.length
    · rw [List.getElem?_set_self hl] at q
      exact absurd (Option.some.inj q) (hlv x)
    · rw [List.getElem?_eq_none (by rw [List.length_set]; omega)] at q; cases q
  · rw [List.getElem?_set_ne hj] at q
    exact ⟨hj, q⟩
theorem ExcRel.set {ov : Option V} (h : ExcRel k σ L H g) (hlv : ∀ x, lv ≠ .exc x) : ExcRel k (σ.set i ov) (L.set i lv) H g := fun j x q => by
  obtain ⟨hj, q⟩ := exc_at hlv q
  rw [List.getElem?_set_ne hj]
  exact h j x q
theorem ExcRel.setL (h : ExcRel k σ L H g) (hlv : ∀ x, lv ≠ .exc x) : ExcRel k σ (L.set i lv) H g := fun j x q => h j x (exc_at hlv q).2
end
/-- an object of the frame's own -/
def OwnAt (k : Kx) (H : Hp) (g : G) (a : Addr) (o : O) : Prop := ORep k H g o a ∧ ¬ g.F a ∧ ∀ i, i < g.n → g.ρ i ≠ a
structure LocRel (k : Kx) (σ : L2.St) (L : Ls) (H : Hp) (g : G) : Prop where
  len : σ.length = L.length
  val : ∀ (i : Nat) (d : D), L[i]? = some (.v d) → ∃ v, σ[i]? = some (some v) ∧ Rep k H g d v
  own : ∀ (i : Nat) (o : O), L[i]? = some (.o o) → ∃ a, σ[i]? = some (some (.ref a)) ∧ OwnAt k H g a o
  sep : ∀ (i j : Nat) (o u : O) (a : Addr), L[i]? = some (.o o) → L[j]? = some (.o u) → σ[i]? = some (some (.ref a)) → σ[j]? = some (some (.ref a)) → i = j
  exc : ExcRel k σ L H g

theorem ORep.tr {k : Kx} {H : Hp} {g : G} {o : O} {a : Addr} (h : ORep k H g o a) : ∃ u, H a = some u := by
  cases o with
  | lst ds => obtain ⟨vs, e, _⟩ := h; exact ⟨_, e⟩
  | dK kvs => obtain ⟨vs, e, _⟩ := h; exact ⟨_, e⟩
  | dT kvs => obtain ⟨vs, e, _⟩ := h; exact ⟨_, e⟩
  | ins c ns ds => obtain ⟨C, dx, vs, _, e, _⟩ := h; exact ⟨_, e⟩
theorem ORep.mono {k : Kx} {H H' : Hp} {g g' : G} {o : O} {a : Addr} (e : PExt H g H' g') (hk : ∀ o, H a = some o → H' a = some o) (h : ORep k H g o a) : ORep k H' g' o a := by
  cases o with
  | lst ds => obtain ⟨vs, q, r⟩ := h; exact ⟨vs, hk _ q, r.mono e _ _⟩
  | dK kvs => obtain ⟨vs, q, r⟩ := h; exact ⟨vs, hk _ q, r.mono e _ _⟩
  | dT kvs => obtain ⟨vs, q, r⟩ := h; exact ⟨vs, hk _ q, r.mono e _ _⟩
  | ins c ns ds => obtain ⟨C, dx, vs, q0, q, r⟩ := h; exact ⟨C, dx, vs, q0, hk _ q, r.mono e _ _⟩
theorem OwnAt.ext {k : Kx} {H H' : Hp} {g g' : G} {o : O} {a : Addr} (e : Ext H g H' g') (h : OwnAt k H g a o) : OwnAt k H' g' a o := by
  obtain ⟨h1, h2, h3⟩ := h
  obtain ⟨u, hu⟩ := h1.tr
  refine ⟨h1.mono e.toPExt fun o q => e.keep a o q h3, fun f => ?_, fun i hi q => ?_⟩
  · rcases e.newF a f with f | f
    · exact h2 f
    · rw [hu] at f; cases f
  · by_cases hi' : i < g.n
    · exact h3 i hi' ((e.ρ i hi').symm.trans q)
    · have z := e.newρ i (Nat.le_of_not_lt hi') hi
      rw [q, hu] at z; cases z
theorem LocRel.ext {k : Kx} {σ : L2.St} {L : Ls} {H H' : Hp} {g g' : G} (r : LocRel k σ L H g) (e : Ext H g H' g') : LocRel k σ L H' g' where
  len := r.len
  val := fun i d h => by
    obtain ⟨v, a, b⟩ := r.val i d h
    exact ⟨v, a, b.mono e.toPExt _ _⟩
  own := fun i o h => by
    obtain ⟨a, h1, h2⟩ := r.own i o h
    exact ⟨a, h1, h2.ext e⟩
  sep := r.sep
  exc := r.exc.mono e.toPExt

/-! ### new objects -/
def G.frz (g : G) (a : Addr) : G := { g with F := fun b => b = a ∨ g.F b }
def G.push (g : G) (a : Addr) : G := { g with ρ := fun i => if i = g.n then a else g.ρ i, n := g.n + 1 }
section
variable {k : Kx} {H : Hp} {g : G} {S : Sto} {p : Addr} {o : HO}
theorem Ext.new (h : H p = none) : Ext H g (upd H p o) g where
  toPExt := ⟨fun _ h => h, fun a u _ q => by rw [upd_ne (ne_of_none q h)]; exact q, fun a xs q => by rw [upd_ne (ne_of_none q h)]; exact q, fun a u x q => by rw [upd_ne (ne_of_none q h)]; exact q, Nat.le_refl _, fun _ _ => rfl⟩
  keep := fun a u q _ => by rw [upd_ne (ne_of_none q h)]; exact q
  newF := fun _ h => .inl h
  newρ := fun i h1 h2 => absurd h2 (Nat.not_lt.mpr h1)
  tr := fun a u q => ⟨u, by rw [upd_ne (ne_of_none q h)]; exact q⟩
theorem PExt.frz : PExt H g H (g.frz p) := ⟨fun _ h => .inr h, fun _ _ _ h => h, fun _ _ h => h, fun _ _ _ h => h, Nat.le_refl _, fun _ _ => rfl⟩
theorem Ext.newFrz (h : H p = none) : Ext H g (upd H p o) (g.frz p) where
  toPExt := (Ext.new h).toPExt.trans PExt.frz
  keep := (Ext.new h).keep
  newF := fun a f => by
    rcases f with rfl | f
    · exact .inr h
    · exact .inl f
  newρ := fun i h1 h2 => absurd h2 (Nat.not_lt.mpr h1)
  tr := (Ext.new (o := o) (g := g) h).tr
theorem Ext.newPush (h : H p = none) : Ext H g (upd H p o) (g.push p) where
  toPExt := (Ext.new h).toPExt.trans ⟨fun _ h => h, fun _ _ _ h => h, fun _ _ h => h, fun _ _ _ h => h, Nat.le_succ _, fun i hi => if_neg (Nat.ne_of_lt hi)⟩
  keep := (Ext.new (g := g) h).keep
  newF := fun _ f => .inl f
  newρ := fun i h1 h2 => by
    have e : i = g.n := Nat.le_antisymm (Nat.le_of_lt_succ h2) h1
    show H (if i = g.n then p else g.ρ i) = none
    rw [if_pos e]; exact h
  tr := (Ext.new (o := o) (g := g) h).tr
theorem WF.ρt (w : WF k H g S) {i : Nat} (hi : i < g.n) : ∃ o, H (g.ρ i) = some o := by
  obtain ⟨o, e⟩ : ∃ o, S[i]? = some o := ⟨_, List.getElem?_eq_getElem (by rw [w.len]; exact hi)⟩
  exact (w.ob i o e).tr
theorem WF.new (w : WF k H g S) (h : H p = none) : WF k (upd H p o) g S where
  len := w.len
  ob := fun i u e => (w.ob i u e).mono (Ext.new h).toPExt fun o q => by rw [upd_ne (ne_of_none q h)]; exact q
  inj := w.inj
  nF := w.nF
  tF := fun a f => by
    obtain ⟨u, e⟩ := w.tF a f
    exact ⟨u, by rw [upd_ne (ne_of_none e h)]; exact e⟩
theorem WF.newFrz (w : WF k H g S) (h : H p = none) : WF k (upd H p o) (g.frz p) S where
  len := w.len
  ob := fun i u e => ((w.new (o := o) h).ob i u e).mono PExt.frz fun _ q => q
  inj := w.inj
  nF := fun i hi f => by
    rcases f with f | f
    · obtain ⟨u, e⟩ := w.ρt hi
      rw [show g.ρ i = p from f, h] at e; cases e
    · exact w.nF i hi f
  tF := fun a f => by
    rcases f with rfl | f
    · exact ⟨o, upd_same⟩
    · exact (w.new h).tF a f
theorem WF.newPush {ob : O} (w : WF k H g S) (h : H p = none) (r : ORep k (upd H p o) (g.push p) ob p) : WF k (upd H p o) (g.push p) (S ++ [ob]) where
  len := by rw [List.length_append, w.len]; rfl
  ob := fun i u e => by
    by_cases hi : i < g.n
    · rw [List.getElem?_append_left (by rw [w.len]; exact hi)] at e
      show ORep k _ _ u (if i = g.n then p else g.ρ i)
      rw [if_neg (Nat.ne_of_lt hi)]
      exact (w.ob i u e).mono (Ext.newPush h).toPExt fun o q => by rw [upd_ne (ne_of_none q h)]; exact q
    · rw [List.getElem?_append_right (by rw [w.len]; exact Nat.le_of_not_lt hi), w.len] at e
      have e0 : i - g.n = 0 := by
        rcases Nat.eq_zero_or_pos (i - g.n) with z | z
        · exact z
        · rw [List.getElem?_eq_none (by simp only [List.length_singleton]; omega)] at e; cases e
      have ei : i = g.n := by omega
      rw [e0] at e
      cases e
      show ORep k _ _ ob (if i = g.n then p else g.ρ i)
      rw [if_pos ei]
      exact r
  inj := fun i j hi hj e => by
    have e' : (if i = g.n then p else g.ρ i) = (if j = g.n then p else g.ρ j) := e
    by_cases h1 : i = g.n
    · by_cases h2 : j = g.n
      · omega
      · rw [if_pos h1, if_neg h2] at e'
        obtain ⟨u, q⟩ := w.ρt (show j < g.n by have : j < g.n + 1 := hj; omega)
        rw [← e', h] at q; cases q
    · by_cases h2 : j = g.n
      · rw [if_neg h1, if_pos h2] at e'
        obtain ⟨u, q⟩ := w.ρt (show i < g.n by have : i < g.n + 1 := hi; omega)
        rw [e', h] at q; cases q
      · rw [if_neg h1, if_neg h2] at e'
        have h3 : i < g.n + 1 := hi
        have h4 : j < g.n + 1 := hj
        exact w.inj i j (by omega) (by omega) e'
  nF := fun i hi f => by
    have f' : g.F (if i = g.n then p else g.ρ i) := f
    by_cases h1 : i = g.n
    · rw [if_pos h1] at f'
      obtain ⟨u, q⟩ := w.tF _ f'
      rw [h] at q; cases q
    · rw [if_neg h1] at f'
      have h3 : i < g.n + 1 := hi
      exact w.nF i (by omega) f'
  tF := fun a f => (w.new h).tF a f
end
end Rf

set_option Elab.async false
set_option linter.all false
set_option maxRecDepth 100000
/-! Rf, part 2: what is wanted of a result; judgements. -/
namespace Rf
open PySem L2

abbrev kx (X : Cx) : Kx := ⟨X.K, X.mg, if X.calm = true then none else X.pn.head?⟩
theorem kx_calm {X : Cx} (h : X.calm = true) : kx X = k0 X.K X.mg := by unfold kx; rw [if_pos h]

def Post {α β : Type} (k : Kx) (P : Hp → G → α → β → Prop) (H : Hp) (g : G) (W : Value → Option Addr → Hp → Prop) (r : R α) (Q : β → Hp → Prop) : Prop := match r with
  | .ok a S => ∀ b H' g', Ext H g H' g' → WF k H' g' S → P H' g' a b → Q b H'
  | .ex x S => ∀ c d H' g', Ext H g H' g' → WF k H' g' S → XRep k H' g' x c d → W c d H'
  | .no => False

section
variable {α β α' β' : Type} {k : Kx} {P : Hp → G → α → β → Prop} {P' : Hp → G → α' → β' → Prop} {H H' : Hp} {g g' : G} {W : Value → Option Addr → Hp → Prop} {r : R α} {f : α → Sto → R α'} {Q : β → Hp → Prop} {Q' : β' → Hp → Prop}
theorem Post.from (h : Post k P H g W r Q) (e : Ext H g H' g') : Post k P H' g' W r Q := by
  cases r with
  | ok a S => exact fun b H2 g2 e2 w p => h b H2 g2 (e.trans e2) w p
  | ex x S => exact fun c d H2 g2 e2 w p => h c d H2 g2 (e.trans e2) w p
  | no => exact h
theorem Post.bind (h : Post k P' H g W (r.bind f) Q') (hk : ∀ a S b H' g', Ext H g H' g' → WF k H' g' S → P H' g' a b → Post k P' H' g' W (f a S) Q' → Q b H') : Post k P H g W r Q := by
  cases r with
  | ok a S => exact fun b H2 g2 e w p => hk a S b H2 g2 e w p (Post.from h e)
  | ex x S => exact h
  | no => exact h
theorem Post.kc {d : R D} {Q : V → Hp → Prop} {k k' : Kx} (h1 : k'.K = k.K) (h2 : k'.mg = k.mg) (h : Post k (Rep k) H g W d Q) : Post k' (Rep k') H g W d Q := by
  cases d with
  | ok a S => exact fun b H2 g2 e w p => h b H2 g2 e (w.kc h1.symm h2.symm) (Rep.kc h1.symm h2.symm _ _ p)
  | ex x S => exact fun c d H2 g2 e w p => h c d H2 g2 e (w.kc h1.symm h2.symm) (p.kc h1.symm h2.symm)
  | no => exact h
theorem Post.ret {a : α} {b : β} {S : Sto} (h : Post k P H g W (.ok a S) Q) (w : WF k H g S) (p : P H g a b) : Q b H := h b H g (Ext.refl H g) w p
end

/-! ### contents -/
/-- a list in the store by its items -/
@[reducible] def deref (S : Sto) : D → D
  | .obj n => match S[n]? with
    | some (.lst ds) => .lst ds
    | _ => .obj n
  | d => d
/-- what may be looked into: like Rep, but a list need not be one that is never written again -/
def CRep (k : Kx) (H : Hp) (g : G) : D → V → Prop
  | .lst ds, v => ∃ a vs, v = .ref a ∧ H a = some (.lst vs) ∧ RepL k H g ds vs
  | d, v => Rep k H g d v
/-- an operand: a value, or an own object of the frame -/
def PkRep (k : Kx) (σ : L2.St) (L : Ls) (H : Hp) (g : G) (d : D) (v : V) : Prop :=
  Rep k H g d v ∨ ∃ (i : Nat) (ds : List D), L[i]? = some (.o (.lst ds)) ∧ d = .lst ds ∧ σ[i]? = some (some v)
section
variable {k : Kx} {σ : L2.St} {L : Ls} {H H' : Hp} {g g' : G} {S : Sto} {d : D} {v : V}
theorem Rep.c (h : Rep k H g d v) : CRep k H g d v := by
  cases d with
  | lst ds => obtain ⟨a, vs, h1, _, h3, h4⟩ := h; exact ⟨a, vs, h1, h3, h4⟩
  | _ => exact h
theorem PkRep.ext (h : PkRep k σ L H g d v) (e : PExt H g H' g') : PkRep k σ L H' g' d v := by
  rcases h with h | h
  · exact .inl (h.mono e _ _)
  · exact .inr h
theorem PkRep.c (h : PkRep k σ L H g d v) (l : LocRel k σ L H g) (w : WF k H g S) : CRep k H g (deref S d) v := by
  rcases h with h | ⟨i, ds, h1, rfl, h3⟩
  · cases d with
    | obj n =>
      obtain ⟨hn, rfl⟩ := h
      show CRep k H g (match S[n]? with | some (.lst ds) => .lst ds | _ => .obj n) _
      cases q : S[n]? with
      | none => exact ⟨hn, rfl⟩
      | some o =>
        cases o with
        | lst ds =>
          obtain ⟨vs, a, b⟩ := w.ob n _ q
          exact ⟨_, vs, rfl, a, b⟩
        | _ => exact ⟨hn, rfl⟩
    | _ => exact Rep.c h
  · obtain ⟨a, q, ⟨vs, e, r⟩, _⟩ := l.own i _ h1
    rw [h3] at q
    cases q
    exact ⟨a, vs, rfl, e, r⟩
end

/-! ### judgements: e is done by m -/
section
variable (k : Kx) (W : WX)
def tE (m : EM) : TE := fun σ H Q => ∃ L S g, LocRel k σ L H g ∧ WF k H g S ∧ Post k (Rep k) H g (fun c d => W c d σ) (m L S) Q
def tP (m : EM) : TE := fun σ H Q => ∃ L S g, LocRel k σ L H g ∧ WF k H g S ∧ Post k (PkRep k σ L) H g (fun c d => W c d σ) (m L S) Q
/-- a new list: its items -/
def FRep (H : Hp) (H' : Hp) (g' : G) (ds : List D) (v : V) : Prop := ∃ a, v = .ref a ∧ H a = none ∧ OwnAt k H' g' a (.lst ds)
def tF (m : Ls → Sto → R (List D)) : TE := fun σ H Q => ∃ L S g, LocRel k σ L H g ∧ WF k H g S ∧ Post k (FRep k H) H g (fun c d => W c d σ) (m L S) Q
def tT (m : Ls → Sto → R Bool) : TT := fun σ H Q => ∃ L S g, LocRel k σ L H g ∧ WF k H g S ∧ Post k (fun _ _ (b c : Bool) => c = b) H g (fun c d => W c d σ) (m L S) Q
def PkL (σ : L2.St) (L : Ls) (H : Hp) (g : G) : List D → List V → Prop
  | [], vs => vs = []
  | d :: ds, vs => ∃ v r, vs = v :: r ∧ PkRep k σ L H g d v ∧ PkL σ L H g ds r
def tA (m : Ls → Sto → R (List D)) : TA := fun σ H Q => ∃ L S g, LocRel k σ L H g ∧ WF k H g S ∧ Post k (PkL k σ L) H g (fun c d => W c d σ) (m L S) Q
end
theorem PE.imp {X : Cx} {e : Expr} {t t' : TE} (h : PE X e t) (i : ∀ σ H Q, t' σ H Q → t σ H Q) : PE X e t' := ⟨fun pins s σ H Q I q => h.run pins s σ H Q I (i σ H Q q)⟩
theorem PT.imp {X : Cx} {e : Expr} {t t' : TT} (h : PT X e t) (i : ∀ σ H Q, t' σ H Q → t σ H Q) : PT X e t' := ⟨fun pins s σ H Q I q => h.run pins s σ H Q I (i σ H Q q)⟩
theorem PA.imp {X : Cx} {e : List Expr} {t t' : TA} (h : PA X e t) (i : ∀ σ H Q, t' σ H Q → t σ H Q) : PA X e t' := ⟨fun pos pins s σ H Q I q => h.run pos pins s σ H Q I (i σ H Q q)⟩
abbrev SE (X : Cx) (W : WX) (e : Expr) (m : EM) : Prop := PE X e (tE (kx X) W m)
abbrev SP (X : Cx) (W : WX) (e : Expr) (m : EM) : Prop := PE X e (tP (kx X) W m)
abbrev SF (X : Cx) (W : WX) (e : Expr) (m : Ls → Sto → R (List D)) : Prop := PE X e (tF (kx X) W m)
abbrev ST (X : Cx) (W : WX) (e : Expr) (m : Ls → Sto → R Bool) : Prop := PT X e (tT (kx X) W m)
abbrev SA (X : Cx) (W : WX) (es : List Expr) (m : Ls → Sto → R (List D)) : Prop := PA X es (tA (kx X) W m)

section
variable {X : Cx} {W : WX} {e a b : Expr} {es : List Expr} {m ma mb : EM}
theorem SE.pk (h : SE X W e m) : SP X W e m := PE.imp h fun σ H Q ⟨L, S, g, l, w, p⟩ => ⟨L, S, g, l, w, by
  cases q : m L S with
  | ok d S' => rw [q] at p; exact fun v H' g' e w r => p v H' g' e w (.inl r)
  | ex x S' => rw [q] at p; exact p
  | no => rw [q] at p; exact p⟩

/-! ### names and constants -/
def eVar (i : Nat) : EM := fun L S => match L[i]? with
  | some (.v d) => .ok d S
  | _ => .no
def pVar (i : Nat) : EM := fun L S => match L[i]? with
  | some (.v d) => .ok d S
  | some (.o (.lst ds)) => .ok (.lst ds) S
  | _ => .no
def eC (d : D) : EM := fun _ S => .ok d S
theorem se_var {i : Nat} {x : Str} {pos : Pos} (h : PE X (.Name x pos) (tVar i)) : SE X W (.Name x pos) (eVar i) := PE.imp h fun σ H Q ⟨L, S, g, l, w, p⟩ => by
  unfold eVar at p
  cases q : L[i]? with
  | none => rw [q] at p; exact p.elim
  | some lv =>
    rw [q] at p
    cases lv with
    | v d =>
      obtain ⟨v, e1, r⟩ := l.val i d q
      exact ⟨v, e1, Post.ret p w r⟩
    | _ => exact p.elim
theorem sp_var {i : Nat} {x : Str} {pos : Pos} (h : PE X (.Name x pos) (tVar i)) : SP X W (.Name x pos) (pVar i) := PE.imp h fun σ H Q ⟨L, S, g, l, w, p⟩ => by
  unfold pVar at p
  cases q : L[i]? with
  | none => rw [q] at p; exact p.elim
  | some lv =>
    rw [q] at p
    cases lv with
    | v d =>
      obtain ⟨v, e1, r⟩ := l.val i d q
      exact ⟨v, e1, Post.ret p w (.inl r)⟩
    | o o =>
      cases o with
      | lst ds =>
        obtain ⟨v, e1, r⟩ := l.own i _ q
        exact ⟨_, e1, Post.ret p w (.inr ⟨i, ds, q, rfl, e1⟩)⟩
      | _ => exact p.elim
    | un => exact p.elim
    | exc x => exact p.elim
theorem se_const {d : D} {v : V} (h : PE X e (tC v)) (r : ∀ H g, Rep (kx X) H g d v) : SE X W e (eC d) := PE.imp h fun σ H Q ⟨L, S, g, l, w, p⟩ => Post.ret p w (r H g)

/-! ### two operands -/
/-- an operation on contents -/
def OpC (X : Cx) (f : Value → Value → Sem Value) (o : D → D → Option D) : Prop :=
  ∀ (d e res : D), o d e = some res → OpR X f (fun x y H Q => ∃ g S, WF (kx X) H g S ∧ CRep (kx X) H g d x ∧ CRep (kx X) H g e y ∧
    ∀ v H' g', Ext H g H' g' → WF (kx X) H' g' S → Rep (kx X) H' g' res v → Q v H')
def lift {α : Type} (o : Option α) (S : Sto) : R α := match o with
  | some a => .ok a S
  | none => .no
def eBin (o : D → D → Option D) (ma mb : EM) : EM := fun L S => (ma L S).bind fun x S1 => (mb L S1).bind fun y S2 => lift (o (deref S2 x) (deref S2 y)) S2
theorem OpR.ex {f : Value → Value → Sem Value} {o : D → D → Option D} (h : OpC X f o) : OpR X f (fun x y H Q => ∃ g S d e res, WF (kx X) H g S ∧ CRep (kx X) H g d x ∧ CRep (kx X) H g e y ∧ o d e = some res ∧
    ∀ v H' g', Ext H g H' g' → WF (kx X) H' g' S → Rep (kx X) H' g' res v → Q v H') := by
  intro pins s σ H x y v u Q I rx ry q
  obtain ⟨g, S, d, e, res, w, c1, c2, q1, q2⟩ := q
  exact h d e res q1 pins s σ H x y v u Q I rx ry ⟨g, S, w, c1, c2, q2⟩
/-- the bind of two operands, for the readings of two expressions -/
theorem two_ops {k : Kx} {o : D → D → Option D} {σ : L2.St} {H : Hp} {Q : VK} {Wf : WX} (h : tE k Wf (eBin o ma mb) σ H Q) :
    tP k Wf ma σ H fun x H1 => tP k Wf mb σ H1 fun y H2 => ∃ g S d e res, WF k H2 g S ∧ CRep k H2 g d x ∧ CRep k H2 g e y ∧ o d e = some res ∧
      ∀ v H' g', Ext H2 g H' g' → WF k H' g' S → Rep k H' g' res v → Q v H' := by
  obtain ⟨L, S, g, l, w, p⟩ := h
  refine ⟨L, S, g, l, w, Post.bind p fun x S1 xv H1 g1 e1 w1 r1 p1 => ?_⟩
  refine ⟨L, S1, g1, l.ext e1, w1, Post.bind p1 fun y S2 yv H2 g2 e2 w2 r2 p2 => ?_⟩
  have l2 := (l.ext e1).ext e2
  cases q : o (deref S2 x) (deref S2 y) with
  | none => rw [q] at p2; exact p2.elim
  | some res =>
    rw [q] at p2
    exact ⟨g2, S2, _, _, res, w2, (r1.ext e2.toPExt).c l2 w2, r2.c l2 w2, q, p2⟩
theorem se_bin {op : Operator} {o : D → D → Option D} {pos : Pos} (h : OpC X (binaryOp op) o) (ha : SP X W a ma) (hb : SP X W b mb) : SE X W (.BinOp a op b pos) (eBin o ma mb) :=
  PE.imp (pe_op (OpR.ex h) ha hb) fun σ H Q q => two_ops q
theorem se_cmp {op : CmpOp} {o : D → D → Option D} {pos : Pos} (h : OpC X (compareOp op) o) (ha : SP X W a ma) (hb : SP X W b mb) (hm : behindInMarks op b = false) : SE X W (.Compare a [op] [b] pos) (eBin o ma mb) :=
  PE.imp (pe_cmpR (OpR.ex h) ha hb hm) fun σ H Q q => two_ops q
/-- a test's answer must be a truth -/
def tOfE (m : EM) : Ls → Sto → R Bool := fun L S => (m L S).bind fun d S1 => match d with
  | .bl b => .ok b S1
  | _ => .no
theorem tt_of {k : Kx} {σ : L2.St} {H : Hp} {Q : Bool → Hp → Prop} {Wf : WX} (h : tT k Wf (tOfE m) σ H Q) : tE k Wf m σ H fun x H' => ∃ c, x = .bl c ∧ Q c H' := by
  obtain ⟨L, S, g, l, w, p⟩ := h
  refine ⟨L, S, g, l, w, Post.bind p fun d S1 v H1 g1 e1 w1 r1 p1 => ?_⟩
  cases d with
  | bl b => exact ⟨b, r1, Post.ret p1 w1 rfl⟩
  | _ => exact p1.elim
theorem st_cmp {op : CmpOp} {o : D → D → Option D} {pos : Pos} (h : OpC X (compareOp op) o) (ha : SP X W a ma) (hb : SP X W b mb) (hm : behindInMarks op b = false) : ST X W (.Compare a [op] [b] pos) (tOfE (eBin o ma mb)) :=
  PT.imp (pt_cmpR (OpR.ex h) ha hb hm) fun σ H Q q => two_ops (tt_of q)
end
end Rf

set_option Elab.async false
set_option linter.all false
set_option maxRecDepth 100000
/-! Rf, part 3: operators on contents. -/
namespace Rf
open PySem L2

/-! ### equality -/
mutual
def toPy : D → Option PyData
  | .non => some .none
  | .bl b => some (.bool b)
  | .int i => some (.int i)
  | .str x => some (.str ⟨x.toArray⟩)
  | .tup ds => (toPyL ds).map .tuple
  | .lst ds => (toPyL ds).map .list
  | _ => none
def toPyL : List D → Option (List PyData)
  | [] => some []
  | d :: ds => match toPy d, toPyL ds with
    | some p, some ps => some (p :: ps)
    | _, _ => none
end
def shp (d : D) : Bool := match toPy d with
  | some p => SeqAt.shaped p
  | none => false
theorem shp_get {d : D} (h : shp d = true) : ∃ p, toPy d = some p ∧ SeqAt.shaped p = true := by
  unfold shp at h
  split at h
  · rename_i p e; exact ⟨p, e, h⟩
  · cases h
mutual
def eqv : D → D → Bool
  | .non, .non => true
  | .bl a, .bl b => a == b
  | .bl a, .int j => (if a then 1 else 0) == j
  | .int i, .bl b => i == (if b then 1 else 0)
  | .int i, .int j => i == j
  | .str x, .str y => x == y
  | .lst xs, .lst ys => eqvL xs ys
  | .tup xs, .tup ys => eqvL xs ys
  | _, _ => false
def eqvL : List D → List D → Bool
  | [], [] => true
  | x :: xs, y :: ys => eqv x y && eqvL xs ys
  | _, _ => false
end
theorem str_beq (x y : List Nat) : ((⟨x.toArray⟩ : Str) == ⟨y.toArray⟩) = (x == y) := by
  rw [Bool.eq_iff_iff, beq_iff_eq, beq_iff_eq]
  constructor
  · intro h
    have := congrArg (fun z : Str => z.cps.toList) h
    simpa using this
  · rintro rfl; rfl
mutual
theorem eqv_py : ∀ (d e : D) (p q : PyData), toPy d = some p → toPy e = some q → PyData.eqv p q = eqv d e
  | .non, e, p, q, h1, h2 => by
    cases h1
    cases e with
    | tup es => simp only [toPy, Option.map_eq_some_iff] at h2; obtain ⟨x, _, rfl⟩ := h2; rfl
    | lst es => simp only [toPy, Option.map_eq_some_iff] at h2; obtain ⟨x, _, rfl⟩ := h2; rfl
    | obj _ => cases h2
    | gl _ => cases h2
    | ty _ => cases h2
    | scr _ => cases h2
    | edc => cases h2
    | ins _ _ _ => cases h2
    | _ => cases h2; rfl
  | .bl b, e, p, q, h1, h2 => by
    cases h1
    cases e with
    | tup es => simp only [toPy, Option.map_eq_some_iff] at h2; obtain ⟨x, _, rfl⟩ := h2; rfl
    | lst es => simp only [toPy, Option.map_eq_some_iff] at h2; obtain ⟨x, _, rfl⟩ := h2; rfl
    | obj _ => cases h2
    | gl _ => cases h2
    | ty _ => cases h2
    | scr _ => cases h2
    | edc => cases h2
    | ins _ _ _ => cases h2
    | _ => cases h2; first | rfl | (simp only [PyData.eqv, eqv])
  | .int b, e, p, q, h1, h2 => by
    cases h1
    cases e with
    | tup es => simp only [toPy, Option.map_eq_some_iff] at h2; obtain ⟨x, _, rfl⟩ := h2; rfl
    | lst es => simp only [toPy, Option.map_eq_some_iff] at h2; obtain ⟨x, _, rfl⟩ := h2; rfl
    | obj _ => cases h2
    | gl _ => cases h2
    | ty _ => cases h2
    | scr _ => cases h2
    | edc => cases h2
    | ins _ _ _ => cases h2
    | _ => cases h2; first | rfl | (simp only [PyData.eqv, eqv])
  | .str b, e, p, q, h1, h2 => by
    cases h1
    cases e with
    | tup es => simp only [toPy, Option.map_eq_some_iff] at h2; obtain ⟨x, _, rfl⟩ := h2; rfl
    | lst es => simp only [toPy, Option.map_eq_some_iff] at h2; obtain ⟨x, _, rfl⟩ := h2; rfl
    | obj _ => cases h2
    | gl _ => cases h2
    | ty _ => cases h2
    | scr _ => cases h2
    | edc => cases h2
    | ins _ _ _ => cases h2
    | str c => cases h2; simp only [PyData.eqv, eqv]; exact str_beq b c
    | _ => cases h2; first | rfl | (simp only [PyData.eqv, eqv])
  | .tup ds, e, p, q, h1, h2 => by
    simp only [toPy, Option.map_eq_some_iff] at h1
    obtain ⟨ps, h1, rfl⟩ := h1
    cases e with
    | tup es =>
      simp only [toPy, Option.map_eq_some_iff] at h2
      obtain ⟨qs, h2, rfl⟩ := h2
      simp only [PyData.eqv, eqv]
      exact eqv_pyL ds es ps qs h1 h2
    | lst es => simp only [toPy, Option.map_eq_some_iff] at h2; obtain ⟨x, _, rfl⟩ := h2; rfl
    | obj _ => cases h2
    | gl _ => cases h2
    | ty _ => cases h2
    | scr _ => cases h2
    | edc => cases h2
    | ins _ _ _ => cases h2
    | _ => cases h2; rfl
  | .lst ds, e, p, q, h1, h2 => by
    simp only [toPy, Option.map_eq_some_iff] at h1
    obtain ⟨ps, h1, rfl⟩ := h1
    cases e with
    | lst es =>
      simp only [toPy, Option.map_eq_some_iff] at h2
      obtain ⟨qs, h2, rfl⟩ := h2
      simp only [PyData.eqv, eqv]
      exact eqv_pyL ds es ps qs h1 h2
    | tup es => simp only [toPy, Option.map_eq_some_iff] at h2; obtain ⟨x, _, rfl⟩ := h2; rfl
    | obj _ => cases h2
    | gl _ => cases h2
    | ty _ => cases h2
    | scr _ => cases h2
    | edc => cases h2
    | ins _ _ _ => cases h2
    | _ => cases h2; rfl
theorem eqv_pyL : ∀ (ds es : List D) (ps qs : List PyData), toPyL ds = some ps → toPyL es = some qs → PyData.eqvAll ps qs = eqvL ds es
  | [], [], ps, qs, h1, h2 => by cases h1; cases h2; rfl
  | [], e :: es, ps, qs, h1, h2 => by
    cases h1
    simp only [toPyL] at h2
    split at h2
    · cases h2; rfl
    · cases h2
  | d :: ds, [], ps, qs, h1, h2 => by
    cases h2
    simp only [toPyL] at h1
    split at h1
    · cases h1; rfl
    · cases h1
  | d :: ds, e :: es, ps, qs, h1, h2 => by
    simp only [toPyL] at h1 h2
    split at h1
    · rename_i p ps' a1 a2
      cases h1
      split at h2
      · rename_i q qs' b1 b2
        cases h2
        simp only [PyData.eqvAll, eqvL]
        rw [eqv_py d e p q a1 b1, eqv_pyL ds es ps' qs' a2 b2]
      · cases h2
    · cases h1
end
section
variable {k : Kx} {H : Hp} {g : G}
mutual
theorem Rep.dp : ∀ (d : D) (v : V) (p : PyData), Rep k H g d v → toPy d = some p → Dp k.K H v p
  | .non, v, p, h, e => by cases (show v = .non from h); cases e; exact .non
  | .bl b, v, p, h, e => by cases (show v = .bl b from h); cases e; exact .bl b
  | .int i, v, p, h, e => by cases (show v = .int i from h); cases e; exact .int i
  | .str x, v, p, h, e => by cases (show v = .str ⟨x.toArray⟩ from h); cases e; exact .str _
  | .tup ds, v, p, ⟨a, vs, h1, h2, h3⟩, e => by
    simp only [toPy, Option.map_eq_some_iff] at e
    obtain ⟨ps, e, rfl⟩ := e
    subst h1
    exact .tup h2.sq (RepL.dp ds vs ps h3 e)
  | .lst ds, v, p, ⟨a, vs, h1, _, h2, h3⟩, e => by
    simp only [toPy, Option.map_eq_some_iff] at e
    obtain ⟨ps, e, rfl⟩ := e
    subst h1
    exact .lst (SqL.of h2) (RepL.dp ds vs ps h3 e)
  | .obj _, _, _, _, e => by cases e
  | .gl _, _, _, _, e => by cases e
  | .ty _, _, _, _, e => by cases e
  | .scr _, _, _, _, e => by cases e
theorem RepL.dp : ∀ (ds : List D) (vs : List V) (ps : List PyData), RepL k H g ds vs → toPyL ds = some ps → DpAll k.K H vs ps
  | [], vs, ps, h, e => by cases (show vs = [] from h); cases e; exact .nil
  | d :: ds, vs, ps, ⟨v, r, h1, h2, h3⟩, e => by
    simp only [toPyL] at e
    split at e
    · rename_i p ps' a1 a2
      cases e
      subst h1
      exact .cons (Rep.dp d v p h2 a1) (RepL.dp ds r ps' h3 a2)
    · cases e
end
theorem CRep.dp {d : D} {v : V} {p : PyData} (h : CRep k H g d v) (e : toPy d = some p) : Dp k.K H v p := by
  cases d with
  | lst ds =>
    obtain ⟨a, vs, h1, h2, h3⟩ := h
    simp only [toPy, Option.map_eq_some_iff] at e
    obtain ⟨ps, e, rfl⟩ := e
    subst h1
    exact .lst (SqL.of h2) (RepL.dp ds vs ps h3 e)
  | _ => exact Rep.dp _ v p h e
end
/-- two flat values -/
def flatEq : D → D → Option Bool
  | .non, .non => some true
  | .non, .int _ => some false | .int _, .non => some false | .non, .bl _ => some false | .bl _, .non => some false
  | .non, .str _ => some false | .str _, .non => some false
  | .int a, .int b => some (a == b)
  | .bl a, .bl b => some (a == b)
  | .str a, .str b => some (a == b)
  | .int _, .str _ => some false | .str _, .int _ => some false | .bl _, .str _ => some false | .str _, .bl _ => some false
  | _, _ => none
def eqB (d e : D) : Option Bool := match flatEq d e with
  | some b => some b
  | none => if shp d && shp e then some (eqv d e) else none
def cEq (d e : D) : Option D := (eqB d e).map .bl
def cNe (d e : D) : Option D := (eqB d e).map fun b => .bl (!b)

section
variable {X : Cx} {g : G} {S : Sto} {H : Hp} {d e res : D} {Q : VK}
/-- an answer without a new object -/
theorem scalar_fin {v : V} (q : ∀ v H' g', Ext H g H' g' → WF (kx X) H' g' S → Rep (kx X) H' g' res v → Q v H') (w : WF (kx X) H g S) (r : Rep (kx X) H g res v) : Q v H := q v H g (Ext.refl H g) w r
theorem tup_fin {ds : List D} {vs : List V} {p : Addr} (q : ∀ v H' g', Ext H g H' g' → WF (kx X) H' g' S → Rep (kx X) H' g' (.tup ds) v → Q v H') (w : WF (kx X) H g S) (r : RepL (kx X) H g ds vs) (hp : H p = none) : Q (.ref p) (upd H p (.tup vs)) :=
  q _ _ g (Ext.new hp) (w.new hp) ⟨p, vs, rfl, .inl upd_same, r.mono (Ext.new hp).toPExt _ _⟩
theorem lst_fin {ds : List D} {vs : List V} {p : Addr} (q : ∀ v H' g', Ext H g H' g' → WF (kx X) H' g' S → Rep (kx X) H' g' (.lst ds) v → Q v H') (w : WF (kx X) H g S) (r : RepL (kx X) H g ds vs) (hp : H p = none) : Q (.ref p) (upd H p (.lst vs)) :=
  q _ _ (g.frz p) (Ext.newFrz hp) (w.newFrz hp) ⟨p, vs, rfl, .inl rfl, upd_same, r.mono (Ext.newFrz hp).toPExt _ _⟩
end
theorem flatEq_v {k : Kx} {H : Hp} {g : G} {d e : D} {x y : V} {b : Bool} (h : flatEq d e = some b) (c1 : CRep k H g d x) (c2 : CRep k H g e y) : scal x y = true ∧ decide (x = y) = b := by
  unfold flatEq at h
  split at h <;> first
    | (cases h; done)
    | (cases h
       simp only [CRep, Rep] at c1 c2
       subst c1 c2
       refine ⟨rfl, ?_⟩
       first
        | decide
        | (rw [Bool.eq_iff_iff]; simp)
        | simp)
theorem cEq_ok {X : Cx} (hu : X.A.units + 64 < cLine) : OpC X (compareOp .Eq) cEq := by
  rintro d e res h pins s σ H x y v u Q I rx ry ⟨g, S, w, c1, c2, q⟩
  unfold cEq eqB at h
  split at h
  · rename_i b hb
    cases h
    obtain ⟨h1, h2⟩ := flatEq_v hb c1 c2
    exact op_eq pins s σ H x y v u Q I rx ry ⟨h1, scalar_fin q w (by rw [h2] <;> rfl)⟩
  · split at h
    · rename_i hs
      cases h
      obtain ⟨h1, h2⟩ := Bool.and_eq_true_iff.mp hs
      obtain ⟨p, e1, s1⟩ := shp_get h1
      obtain ⟨p2, e2, s2⟩ := shp_get h2
      exact op_eqD hu pins s σ H x y v u Q I rx ry ⟨p, p2, c1.dp e1, c2.dp e2, s1, s2, scalar_fin q w (by rw [eqv_py d e p p2 e1 e2] <;> rfl)⟩
    · cases h
theorem cNe_ok {X : Cx} (hu : X.A.units + 64 < cLine) : OpC X (compareOp .NotEq) cNe := by
  rintro d e res h pins s σ H x y v u Q I rx ry ⟨g, S, w, c1, c2, q⟩
  unfold cNe eqB at h
  split at h
  · rename_i b hb
    cases h
    obtain ⟨h1, h2⟩ := flatEq_v hb c1 c2
    exact op_ne pins s σ H x y v u Q I rx ry ⟨h1, scalar_fin q w (by rw [h2] <;> rfl)⟩
  · split at h
    · rename_i hs
      cases h
      obtain ⟨h1, h2⟩ := Bool.and_eq_true_iff.mp hs
      obtain ⟨p, e1, s1⟩ := shp_get h1
      obtain ⟨p2, e2, s2⟩ := shp_get h2
      exact op_neD hu pins s σ H x y v u Q I rx ry ⟨p, p2, c1.dp e1, c2.dp e2, s1, s2, scalar_fin q w (by rw [eqv_py d e p p2 e1 e2] <;> rfl)⟩
    · cases h

/-! ### order of numbers and texts -/
def cLt : D → D → Option D
  | .int a, .int b => some (.bl (decide (a < b)))
  | .str a, .str b => some (.bl (decide (a < b)))
  | _, _ => none
def cLe : D → D → Option D
  | .int a, .int b => some (.bl (decide (a ≤ b)))
  | .str a, .str b => some (.bl (!decide (b < a)))
  | _, _ => none
def cGt : D → D → Option D
  | .int a, .int b => some (.bl (decide (b < a)))
  | .str a, .str b => some (.bl (decide (b < a)))
  | _, _ => none
def cGe : D → D → Option D
  | .int a, .int b => some (.bl (decide (b ≤ a)))
  | .str a, .str b => some (.bl (!decide (a < b)))
  | _, _ => none
section
variable {X : Cx}
theorem cLt_ok : OpC X (compareOp .Lt) cLt := by
  rintro d e res h pins s σ H x y v u Q I rx ry ⟨g, S, w, c1, c2, q⟩
  unfold cLt at h
  split at h
  · cases h; cases c1; cases c2
    exact op_lt pins s σ H _ _ v u Q I rx ry ⟨_, _, rfl, rfl, scalar_fin q w rfl⟩
  · cases h; cases c1; cases c2
    exact op_lt_str pins s σ H _ _ v u Q I rx ry ⟨_, _, rfl, rfl, scalar_fin q w rfl⟩
  · cases h
theorem cLe_ok : OpC X (compareOp .LtE) cLe := by
  rintro d e res h pins s σ H x y v u Q I rx ry ⟨g, S, w, c1, c2, q⟩
  unfold cLe at h
  split at h
  · cases h; cases c1; cases c2
    exact op_le pins s σ H _ _ v u Q I rx ry ⟨_, _, rfl, rfl, scalar_fin q w rfl⟩
  · cases h; cases c1; cases c2
    exact op_le_str pins s σ H _ _ v u Q I rx ry ⟨_, _, rfl, rfl, scalar_fin q w rfl⟩
  · cases h
theorem cGt_ok : OpC X (compareOp .Gt) cGt := by
  rintro d e res h pins s σ H x y v u Q I rx ry ⟨g, S, w, c1, c2, q⟩
  unfold cGt at h
  split at h
  · cases h; cases c1; cases c2
    exact op_gt pins s σ H _ _ v u Q I rx ry ⟨_, _, rfl, rfl, scalar_fin q w rfl⟩
  · cases h; cases c1; cases c2
    exact op_gt_str pins s σ H _ _ v u Q I rx ry ⟨_, _, rfl, rfl, scalar_fin q w rfl⟩
  · cases h
theorem cGe_ok : OpC X (compareOp .GtE) cGe := by
  rintro d e res h pins s σ H x y v u Q I rx ry ⟨g, S, w, c1, c2, q⟩
  unfold cGe at h
  split at h
  · cases h; cases c1; cases c2
    exact op_ge pins s σ H _ _ v u Q I rx ry ⟨_, _, rfl, rfl, scalar_fin q w rfl⟩
  · cases h; cases c1; cases c2
    exact op_ge_str pins s σ H _ _ v u Q I rx ry ⟨_, _, rfl, rfl, scalar_fin q w rfl⟩
  · cases h
end

/-! ### in -/
def flatD : D → Bool
  | .non => true
  | .bl _ => true
  | .int _ => true
  | .str _ => true
  | _ => false
theorem flat_v {k : Kx} {H : Hp} {g : G} {d : D} {v : V} (f : flatD d = true) (c : Rep k H g d v) : flatV v = true := by
  cases d with
  | non => cases c; rfl
  | bl b => cases c; rfl
  | int i => cases c; rfl
  | str x => cases c; rfl
  | _ => cases f
theorem flat_all {k : Kx} {H : Hp} {g : G} : ∀ {ds : List D} {vs : List V}, ds.all flatD = true → RepL k H g ds vs → vs.all flatV = true
  | [], _, _, h => by cases (show _ = [] from h); rfl
  | d :: ds, _, f, ⟨v, r, h1, h2, h3⟩ => by
    rw [List.all_cons, Bool.and_eq_true] at f
    subst h1
    rw [List.all_cons, flat_v f.1 h2, flat_all f.2 h3] <;> rfl
theorem eqV_eqv {k : Kx} {H : Hp} {g : G} {d e : D} {x y : V} (f : flatD d = true) (f' : flatD e = true) (c : Rep k H g d x) (c' : Rep k H g e y) : eqV x y = eqv d e := by
  cases d with
  | non =>
    cases c
    cases e with
    | non => cases c'; rfl
    | bl b => cases c'; rfl
    | int i => cases c'; rfl
    | str z => cases c'; rfl
    | _ => cases f'
  | bl b =>
    cases c
    cases e with
    | non => cases c'; rfl
    | bl b => cases c'; simp only [eqV, eqv]
    | int i => cases c'; simp only [eqV, eqv]
    | str z => cases c'; rfl
    | _ => cases f'
  | int i =>
    cases c
    cases e with
    | non => cases c'; rfl
    | bl b => cases c'; simp only [eqV, eqv]
    | int i => cases c'; simp only [eqV, eqv]
    | str z => cases c'; rfl
    | _ => cases f'
  | str z =>
    cases c
    cases e with
    | non => cases c'; rfl
    | bl b => cases c'; rfl
    | int i => cases c'; rfl
    | str z' => cases c'; simp only [eqV, eqv]; exact str_beq z z'
    | _ => cases f'
  | _ => cases f
theorem inV_eqv {k : Kx} {H : Hp} {g : G} {e : D} {y : V} (f' : flatD e = true) (c' : Rep k H g e y) : ∀ {ds : List D} {vs : List V}, ds.all flatD = true → RepL k H g ds vs → inV y vs = ds.any fun d => eqv d e
  | [], _, _, h => by cases (show _ = [] from h); rfl
  | d :: ds, _, f, ⟨v, r, h1, h2, h3⟩ => by
    rw [List.all_cons, Bool.and_eq_true] at f
    subst h1
    have ih := inV_eqv f' c' f.2 h3
    unfold inV at ih ⊢
    rw [List.any_cons, List.any_cons, eqV_eqv f.1 f' h2 c', ih]
def inB : D → D → Option Bool
  | x, .lst ys => if flatD x && ys.all flatD then some (ys.any fun y => eqv y x) else none
  | x, .tup ys => if flatD x && ys.all flatD then some (ys.any fun y => eqv y x) else none
  | .str [c], .str z => some (decide (c ∈ z))
  | _, _ => none
def cIn (d e : D) : Option D := (inB d e).map .bl
def cNotIn (d e : D) : Option D := (inB d e).map fun b => .bl (!b)
section
variable {X : Cx}
theorem cIn_ok : OpC X (compareOp .In) cIn := by
  rintro d e res h pins s σ H x y v u Q I rx ry ⟨g, S, w, c1, c2, q⟩
  unfold cIn inB at h
  split at h
  · split at h
    · rename_i ys hf
      cases h
      obtain ⟨f1, f2⟩ := Bool.and_eq_true_iff.mp hf
      obtain ⟨a, vs, rfl, ha, r⟩ := c2
      have c1' : Rep (kx X) H g d x := by cases d <;> first | exact c1 | cases f1
      exact op_in_seq pins s σ H _ _ v u Q I rx ry ⟨a, vs, rfl, .inl (SqL.of ha), flat_v f1 c1', flat_all f2 r, scalar_fin q w (by rw [if_neg Bool.false_ne_true, inV_eqv f1 c1' f2 r] <;> rfl)⟩
    · cases h
  · split at h
    · rename_i ys hf
      cases h
      obtain ⟨f1, f2⟩ := Bool.and_eq_true_iff.mp hf
      obtain ⟨a, vs, rfl, ha, r⟩ := c2
      have c1' : Rep (kx X) H g d x := by cases d <;> first | exact c1 | cases f1
      exact op_in_seq pins s σ H _ _ v u Q I rx ry ⟨a, vs, rfl, .inr ha.sq, flat_v f1 c1', flat_all f2 r, scalar_fin q w (by rw [if_neg Bool.false_ne_true, inV_eqv f1 c1' f2 r] <;> rfl)⟩
    · cases h
  · cases h; cases c1; cases c2
    exact op_in_sign pins s σ H _ _ v u Q I rx ry ⟨_, _, rfl, rfl, scalar_fin q w rfl⟩
  · cases h
theorem cNotIn_ok : OpC X (compareOp .NotIn) cNotIn := by
  rintro d e res h pins s σ H x y v u Q I rx ry ⟨g, S, w, c1, c2, q⟩
  unfold cNotIn inB at h
  split at h
  · split at h
    · rename_i ys hf
      cases h
      obtain ⟨f1, f2⟩ := Bool.and_eq_true_iff.mp hf
      obtain ⟨a, vs, rfl, ha, r⟩ := c2
      have c1' : Rep (kx X) H g d x := by cases d <;> first | exact c1 | cases f1
      exact op_notIn_seq pins s σ H _ _ v u Q I rx ry ⟨a, vs, rfl, .inl (SqL.of ha), flat_v f1 c1', flat_all f2 r, scalar_fin q w (by rw [if_pos rfl, inV_eqv f1 c1' f2 r] <;> rfl)⟩
    · cases h
  · split at h
    · rename_i ys hf
      cases h
      obtain ⟨f1, f2⟩ := Bool.and_eq_true_iff.mp hf
      obtain ⟨a, vs, rfl, ha, r⟩ := c2
      have c1' : Rep (kx X) H g d x := by cases d <;> first | exact c1 | cases f1
      exact op_notIn_seq pins s σ H _ _ v u Q I rx ry ⟨a, vs, rfl, .inr ha.sq, flat_v f1 c1', flat_all f2 r, scalar_fin q w (by rw [if_pos rfl, inV_eqv f1 c1' f2 r] <;> rfl)⟩
    · cases h
  · cases h; cases c1; cases c2
    exact op_notIn_sign pins s σ H _ _ v u Q I rx ry ⟨_, _, rfl, rfl, scalar_fin q w rfl⟩
  · cases h

/-! ### is None -/
def isNon : D → Bool
  | .non => true
  | _ => false
theorem isNon_v {k : Kx} {H : Hp} {g : G} {d : D} {v : V} (c : CRep k H g d v) : decide (v = V.non) = isNon d := by
  cases d with
  | non => cases c; rfl
  | bl b => cases c; rfl
  | int b => cases c; rfl
  | str b => cases c; rfl
  | tup ds => obtain ⟨a, vs, rfl, _⟩ := c; rfl
  | lst ds => obtain ⟨a, vs, rfl, _⟩ := c; rfl
  | obj n => obtain ⟨_, rfl⟩ := c; rfl
  | gl x => obtain ⟨a, _, rfl⟩ := c; rfl
  | ty n => cases c; rfl
  | scr n => obtain ⟨a, rfl, _⟩ := c; rfl
  | edc => obtain ⟨a, rfl, _⟩ := c; rfl
  | ins _ _ _ => obtain ⟨a, _, _, _, rfl, _⟩ := c; rfl
def cIs : D → D → Option D
  | d, .non => some (.bl (isNon d))
  | .bl a, .bl b => some (.bl (a == b))
  | _, _ => none
def cIsNot : D → D → Option D
  | d, .non => some (.bl (!isNon d))
  | .bl a, .bl b => some (.bl (!(a == b)))
  | _, _ => none
theorem dec_beq (a b : Bool) : decide (a = b) = (a == b) := by cases a <;> cases b <;> rfl
theorem cIs_ok : OpC X (compareOp .Is) cIs := by
  rintro d e res h pins s σ H x y v u Q I rx ry ⟨g, S, w, c1, c2, q⟩
  unfold cIs at h
  split at h
  · cases h; cases c2
    exact op_isN pins s σ H _ _ v u Q I rx ry ⟨rfl, scalar_fin q w (by rw [isNon_v c1] <;> rfl)⟩
  · cases h; cases c1; cases c2
    exact op_isBl pins s σ H _ _ v u Q I rx ry ⟨_, _, rfl, rfl, scalar_fin q w (by rw [dec_beq] <;> rfl)⟩
  · cases h
theorem cIsNot_ok : OpC X (compareOp .IsNot) cIsNot := by
  rintro d e res h pins s σ H x y v u Q I rx ry ⟨g, S, w, c1, c2, q⟩
  unfold cIsNot at h
  split at h
  · cases h; cases c2
    exact op_notN pins s σ H _ _ v u Q I rx ry ⟨rfl, scalar_fin q w (by rw [isNon_v c1] <;> rfl)⟩
  · cases h; cases c1; cases c2
    exact op_notBl pins s σ H _ _ v u Q I rx ry ⟨_, _, rfl, rfl, scalar_fin q w (by rw [dec_beq] <;> rfl)⟩
  · cases h
end

/-! ### + - * // % ** -/
def oAdd : D → D → Option D
  | .int a, .int b => some (.int (a + b))
  | .str a, .str b => if a.length + b.length ≤ sizeLine then some (.str (a ++ b)) else none
  | .tup a, .tup b => if a.length + b.length ≤ sizeLine then some (.tup (a ++ b)) else none
  | .lst a, .lst b => if a.length + b.length ≤ sizeLine then some (.lst (a ++ b)) else none
  | _, _ => none
def oSub : D → D → Option D
  | .int a, .int b => some (.int (a - b))
  | _, _ => none
def oMul : D → D → Option D
  | .int a, .int b => if a.natAbs.log2 + b.natAbs.log2 < 1000000 then some (.int (a * b)) else none
  | .lst a, .int b => if -(2 ^ 63) ≤ b ∧ b < 2 ^ 63 ∧ a.length * b.toNat ≤ sizeLine then some (.lst (List.replicate b.toNat a).flatten) else none
  | .tup a, .int b => if a ≠ [] ∧ 2 ≤ b ∧ b ≤ 1000 ∧ a.length ≤ 1000 then some (.tup (List.replicate b.toNat a).flatten) else none
  | _, _ => none
def oFdiv : D → D → Option D
  | .int a, .int b => if 0 < b ∧ b.natAbs.log2 < 9000 then some (.int (a / b)) else none
  | _, _ => none
def oMod : D → D → Option D
  | .int a, .int b => if 0 < b then some (.int (a % b)) else none
  | _, _ => none
def oPow : D → D → Option D
  | .int a, .int b => if 0 ≤ b ∧ b ≤ 1000000 ∧ a.natAbs < 2 ^ 64 then some (.int (a ^ b.toNat)) else none
  | _, _ => none
theorem RepL.rep {k : Kx} {H : Hp} {g : G} {ds : List D} {vs : List V} (h : RepL k H g ds vs) : ∀ n : Nat, RepL k H g (List.replicate n ds).flatten (List.replicate n vs).flatten
  | 0 => rfl
  | n + 1 => by
    rw [List.replicate_succ, List.replicate_succ, List.flatten_cons, List.flatten_cons]
    exact h.append (RepL.rep h n)
theorem mk_app (a b : List Nat) : ((⟨a.toArray⟩ : Str) ++ ⟨b.toArray⟩) = ⟨(a ++ b).toArray⟩ := by
  show Str.append _ _ = _
  unfold Str.append
  simp
theorem mk_len (a : List Nat) : (⟨a.toArray⟩ : Str).length = a.length := by unfold Str.length; simp
section
variable {X : Cx}
theorem oAdd_ok : OpC X (binaryOp .Add) oAdd := by
  rintro d e res h pins s σ H x y v u Q I rx ry ⟨g, S, w, c1, c2, q⟩
  unfold oAdd at h
  split at h
  · cases h; cases c1; cases c2
    exact op_add pins s σ H _ _ v u Q I rx ry ⟨_, _, rfl, rfl, scalar_fin q w rfl⟩
  · split at h
    · rename_i a b hz
      cases h; cases c1; cases c2
      exact op_add_str pins s σ H _ _ v u Q I rx ry ⟨_, _, rfl, rfl, by rw [mk_len, mk_len]; exact hz, scalar_fin q w (by rw [mk_app] <;> rfl)⟩
    · cases h
  · split at h
    · rename_i a b hz
      cases h
      obtain ⟨p, vs, rfl, hp, r1⟩ := c1
      obtain ⟨p2, us, rfl, hp2, r2⟩ := c2
      refine op_catA pins s σ H _ _ v u Q I rx ry ⟨p, p2, vs, us, rfl, rfl, hp.sq, hp2.sq, by rw [r1.length, r2.length]; exact hz, fun e => ?_, fun e e2 => ?_, fun e e2 p' hp' => tup_fin q w (r1.append r2) hp'⟩
      · subst e
        have e : a = [] := List.eq_nil_of_length_eq_zero r1.length.symm
        subst e
        exact scalar_fin q w ⟨p2, us, rfl, hp2, r2⟩
      · subst e2
        have e : b = [] := List.eq_nil_of_length_eq_zero r2.length.symm
        subst e
        exact scalar_fin q w ⟨p, vs, rfl, hp, by rw [List.append_nil]; exact r1⟩
    · cases h
  · split at h
    · rename_i a b hz
      cases h
      obtain ⟨p, vs, rfl, hp, r1⟩ := c1
      obtain ⟨p2, us, rfl, hp2, r2⟩ := c2
      exact op_cat pins s σ H _ _ v u Q I rx ry ⟨p, p2, vs, us, rfl, rfl, hp, hp2, by rw [r1.length, r2.length]; exact hz, fun p' hp' => lst_fin q w (r1.append r2) hp'⟩
    · cases h
  · cases h
theorem oSub_ok : OpC X (binaryOp .Sub) oSub := by
  rintro d e res h pins s σ H x y v u Q I rx ry ⟨g, S, w, c1, c2, q⟩
  unfold oSub at h
  split at h
  · cases h; cases c1; cases c2
    exact op_sub pins s σ H _ _ v u Q I rx ry ⟨_, _, rfl, rfl, scalar_fin q w rfl⟩
  · cases h
theorem oMul_ok : OpC X (binaryOp .Mult) oMul := by
  rintro d e res h pins s σ H x y v u Q I rx ry ⟨g, S, w, c1, c2, q⟩
  unfold oMul at h
  split at h
  · split at h
    · rename_i a b hz
      cases h; cases c1; cases c2
      exact op_mulW pins s σ H _ _ v u Q I rx ry ⟨_, _, rfl, rfl, hz, scalar_fin q w rfl⟩
    · cases h
  · split at h
    · rename_i a b hz
      cases h; cases c2
      obtain ⟨p, vs, rfl, hp, r1⟩ := c1
      exact op_rep pins s σ H _ _ v u Q I rx ry ⟨p, b, vs, rfl, rfl, hp, hz.1, hz.2.1, by rw [r1.length]; exact hz.2.2, fun p' hp' => lst_fin q w (r1.rep _) hp'⟩
    · cases h
  · split at h
    · rename_i a b hz
      cases h; cases c2
      obtain ⟨p, vs, rfl, hp, r1⟩ := c1
      exact op_repT pins s σ H _ _ v u Q I rx ry ⟨p, b, vs, rfl, rfl, hp.sq, fun e => hz.1 (by subst e; exact List.eq_nil_of_length_eq_zero r1.length.symm), hz.2.1, hz.2.2.1, by rw [r1.length]; exact hz.2.2.2, fun p' hp' => tup_fin q w (r1.rep _) hp'⟩
    · cases h
  · cases h
theorem oFdiv_ok : OpC X (binaryOp .FloorDiv) oFdiv := by
  rintro d e res h pins s σ H x y v u Q I rx ry ⟨g, S, w, c1, c2, q⟩
  unfold oFdiv at h
  split at h
  · split at h
    · rename_i a b hz
      cases h; cases c1; cases c2
      exact op_fdivW pins s σ H _ _ v u Q I rx ry ⟨_, _, rfl, rfl, hz, scalar_fin q w rfl⟩
    · cases h
  · cases h
theorem oMod_ok : OpC X (binaryOp .Mod) oMod := by
  rintro d e res h pins s σ H x y v u Q I rx ry ⟨g, S, w, c1, c2, q⟩
  unfold oMod at h
  split at h
  · split at h
    · rename_i a b hz
      cases h; cases c1; cases c2
      exact op_mod pins s σ H _ _ v u Q I rx ry ⟨_, _, rfl, rfl, hz, scalar_fin q w rfl⟩
    · cases h
  · cases h
theorem oPow_ok : OpC X (binaryOp .Pow) oPow := by
  rintro d e res h pins s σ H x y v u Q I rx ry ⟨g, S, w, c1, c2, q⟩
  unfold oPow at h
  split at h
  · split at h
    · rename_i a b hz
      cases h; cases c1; cases c2
      exact op_pow pins s σ H _ _ v u Q I rx ry ⟨_, _, rfl, rfl, hz, scalar_fin q w rfl⟩
    · cases h
  · cases h
end
end Rf

set_option Elab.async false
set_option linter.all false
set_option maxRecDepth 100000
/-! Rf, part 4: expressions. -/
namespace Rf
open PySem L2

/-! ### side conditions by the form of an expression -/
def noStar : Expr → Bool
  | .Starred .. => false
  | _ => true
theorem star_cons {e : Expr} {es : List Expr} {env : Env} (h : noStar e = true) : starEach (e :: es) env = (false, eval e env) :: starEach es env := by
  cases e <;> first | rfl | cases h
theorem star_any {pos : Pos} {env : Env} : ∀ {es : List Expr}, es.all noStar = true → (backTo pos (starEach es env)).any (·.1) = false
  | [], _ => rfl
  | e :: es, h => by
    rw [List.all_cons, Bool.and_eq_true] at h
    rw [star_cons h.1]
    show (false || (backTo pos (starEach es env)).any (·.1)) = false
    rw [star_any h.2] <;> rfl
def plainTest : Expr → Bool
  | .UnaryOp .Not _ _ => false
  | .BoolOp .. => false
  | .IfExp .. => false
  | .Compare .. => false
  | _ => true
theorem plain_true {e : Expr} {env : Env} (h : plainTest e = true) (whole : Sem Value) : isTrue e env whole = (do let v ← whole; standAt e.pos; holding [v] (truthy v)) := by
  cases e with
  | UnaryOp op a pos => cases op <;> first | rfl | cases h
  | BoolOp => cases h
  | IfExp => cases h
  | Compare => cases h
  | _ => rfl
def notSlice : Expr → Bool
  | .Slice .. => false
  | _ => true
theorem not_slice {b : Expr} (h : notSlice b = true) (o i : Value) : subscripted b false o i = operate [o, i] (getItem o i) := by
  cases b <;> first | rfl | cases h
def notSuper : Expr → Bool
  | .Call (.Name id _) [] [] _ => !(id == ("super" : Str))
  | _ => true
theorem not_super {o : Expr} {f : Str} {env : Env} (h : notSuper o = true) : attributeBase o f env (eval o env) = eval o env := by
  unfold attributeBase
  split
  · rename_i id p1 p2
    have h' : (!(id == ("super" : Str))) = true := h
    have h2 : (id != ("super" : Str)) = true := h'
    simp only [h2, Bool.true_or, if_true]
  · rfl
def notMark : Expr → Bool
  | .Set .. => false
  | _ => true
theorem not_mark {b : Expr} {op : CmpOp} (h : notMark b = true) : behindInMarks op b = false := by
  cases b <;> first | rfl | cases h
def notComp : Expr → Bool
  | .ListComp .. => false
  | .SetComp .. => false
  | .DictComp .. => false
  | _ => true

section
variable {X : Cx} {W : WX} {e a b c : Expr} {es : List Expr} {m ma mb mc : EM}
/-! ### argument lists -/
def aNil : Ls → Sto → R (List D) := fun _ S => .ok [] S
def aCons (m : EM) (r : Ls → Sto → R (List D)) : Ls → Sto → R (List D) := fun L S => (m L S).bind fun d S1 => (r L S1).bind fun ds S2 => .ok (d :: ds) S2
theorem PkL.ext {k : Kx} {σ : L2.St} {L : Ls} {H H' : Hp} {g g' : G} (e : PExt H g H' g') : ∀ {ds : List D} {vs : List V}, PkL k σ L H g ds vs → PkL k σ L H' g' ds vs
  | [], _, h => h
  | _ :: _, _, ⟨v, r, h1, h2, h3⟩ => ⟨v, r, h1, h2.ext e, PkL.ext e h3⟩
theorem sa_nil : SA X W [] aNil := PA.imp pa_nil fun σ H Q ⟨L, S, g, l, w, p⟩ => Post.ret p w rfl
theorem sa_cons {mr : Ls → Sto → R (List D)} (ha : SP X W e m) (hr : SA X W es mr) (hs : noStar e = true) : SA X W (e :: es) (aCons m mr) :=
  PA.imp (pa_cons ha hr (star_cons hs)) fun σ H Q ⟨L, S, g, l, w, p⟩ => ⟨L, S, g, l, w, Post.bind p fun d S1 v H1 g1 e1 w1 r1 p1 =>
    ⟨L, S1, g1, l.ext e1, w1, Post.bind p1 fun ds S2 vs H2 g2 e2 w2 r2 p2 => Post.ret p2 w2 ⟨v, vs, rfl, r1.ext e2.toPExt, r2⟩⟩⟩
/-- arguments that are kept (values alone) -/
def tAE (k : Kx) (W : WX) (m : Ls → Sto → R (List D)) : TA := fun σ H Q => ∃ L S g, LocRel k σ L H g ∧ WF k H g S ∧ Post k (RepL k) H g (fun c d => W c d σ) (m L S) Q
abbrev SAE (X : Cx) (W : WX) (es : List Expr) (m : Ls → Sto → R (List D)) : Prop := PA X es (tAE (kx X) W m)
theorem sae_nil : SAE X W [] aNil := PA.imp pa_nil fun σ H Q ⟨L, S, g, l, w, p⟩ => Post.ret p w rfl
theorem sae_cons {mr : Ls → Sto → R (List D)} (ha : SE X W e m) (hr : SAE X W es mr) (hs : noStar e = true) : SAE X W (e :: es) (aCons m mr) :=
  PA.imp (pa_cons ha hr (star_cons hs)) fun σ H Q ⟨L, S, g, l, w, p⟩ => ⟨L, S, g, l, w, Post.bind p fun d S1 v H1 g1 e1 w1 r1 p1 =>
    ⟨L, S1, g1, l.ext e1, w1, Post.bind p1 fun ds S2 vs H2 g2 e2 w2 r2 p2 => Post.ret p2 w2 ⟨v, vs, rfl, r1.mono e2.toPExt _ _, r2⟩⟩⟩

/-! ### displays -/
def eTup (m : Ls → Sto → R (List D)) : EM := fun L S => (m L S).bind fun ds S1 => if ds.length ≤ sizeLine then .ok (.tup ds) S1 else .no
theorem se_tup {x1 : Nat} {pos : Pos} {mr : Ls → Sto → R (List D)} (h : SAE X W es mr) : SE X W (.Tuple es x1 pos) (eTup mr) :=
  PE.imp (pe_tup h) fun σ H Q ⟨L, S, g, l, w, p⟩ => ⟨L, S, g, l, w, Post.bind p fun ds S1 vs H1 g1 e1 w1 r1 p1 => by
    by_cases hz : ds.length ≤ sizeLine
    · rw [if_pos hz] at p1
      exact ⟨by rw [r1.length]; exact hz, fun q hq => p1 _ _ g1 (Ext.new hq) (w1.new hq) ⟨q, vs, rfl, .inl upd_same, r1.mono (Ext.new hq).toPExt _ _⟩⟩
    · rw [if_neg hz] at p1
      exact p1.elim⟩
def fLst (m : Ls → Sto → R (List D)) : Ls → Sto → R (List D) := fun L S => (m L S).bind fun ds S1 => if ds.length ≤ sizeLine then .ok ds S1 else .no
theorem fresh_of {H H1 : Hp} {g g1 : G} {q : Addr} (e : Ext H g H1 g1) (h : H1 q = none) : H q = none := by
  cases z : H q with
  | none => rfl
  | some o => obtain ⟨u, y⟩ := e.tr q o z; rw [h] at y; cases y
theorem own_new {k : Kx} {H : Hp} {g : G} {S : Sto} {ds : List D} {vs : List V} {q : Addr} (w : WF k H g S) (r : RepL k H g ds vs) (hq : H q = none) : OwnAt k (upd H q (.lst vs)) g q (.lst ds) := by
  refine ⟨⟨vs, upd_same, r.mono (Ext.new hq).toPExt _ _⟩, fun f => ?_, fun i hi z => ?_⟩
  · obtain ⟨o, z⟩ := w.tF q f
    rw [hq] at z; cases z
  · obtain ⟨o, y⟩ := w.ρt hi
    rw [z, hq] at y; cases y
/-- a rule that ends in a new list -/
theorem f_fin {k : Kx} {H H1 : Hp} {g g1 : G} {S1 : Sto} {W : Value → Option Addr → Hp → Prop} {ds : List D} {vs : List V} {q : Addr} {Q : VK} (e : Ext H g H1 g1) (w1 : WF k H1 g1 S1) (r : RepL k H1 g1 ds vs)
    (p : Post k (FRep k H) H1 g1 W (.ok ds S1) Q) (hq : H1 q = none) : Q (.ref q) (upd H1 q (.lst vs)) :=
  p _ _ g1 (Ext.new hq) (w1.new hq) ⟨q, rfl, fresh_of e hq, own_new w1 r hq⟩
theorem sf_lst {pos : Pos} {mr : Ls → Sto → R (List D)} (h : SAE X W es mr) : SF X W (.List es pos) (fLst mr) :=
  PE.imp (pe_lst h) fun σ H Q ⟨L, S, g, l, w, p⟩ => ⟨L, S, g, l, w, Post.bind p fun ds S1 vs H1 g1 e1 w1 r1 p1 => by
    by_cases hz : ds.length ≤ sizeLine
    · rw [if_pos hz] at p1
      exact ⟨by rw [r1.length]; exact hz, fun q hq => f_fin e1 w1 r1 p1 hq⟩
    · rw [if_neg hz] at p1
      exact p1.elim⟩
/-- a new list that is never changed; one in the store -/
def eFz (m : Ls → Sto → R (List D)) : EM := fun L S => (m L S).bind fun ds S1 => .ok (.lst ds) S1
def eNw (m : Ls → Sto → R (List D)) : EM := fun L S => (m L S).bind fun ds S1 => .ok (.obj S1.length) (S1 ++ [.lst ds])
theorem Ext.frzNew {H : Hp} {H1 : Hp} {g g1 : G} {q : Addr} (e : Ext H g H1 g1) (hq : H q = none) : Ext H g H1 (g1.frz q) where
  toPExt := e.toPExt.trans PExt.frz
  keep := e.keep
  newF := fun a f => by
    rcases f with rfl | f
    · exact .inr hq
    · exact e.newF a f
  newρ := e.newρ
  tr := e.tr
theorem WF.frzOwn {k : Kx} {H : Hp} {g : G} {S : Sto} {q : Addr} {o : O} (w : WF k H g S) (h : OwnAt k H g q o) : WF k H (g.frz q) S where
  len := w.len
  ob := fun i u e => (w.ob i u e).mono PExt.frz fun _ z => z
  inj := w.inj
  nF := fun i hi f => by
    rcases f with f | f
    · exact h.2.2 i hi f
    · exact w.nF i hi f
  tF := fun a f => by
    rcases f with rfl | f
    · exact h.1.tr
    · exact w.tF a f
theorem OwnAt.frz {k : Kx} {H : Hp} {g : G} {q : Addr} {ds : List D} (h : OwnAt k H g q (.lst ds)) : Rep k H (g.frz q) (.lst ds) (.ref q) := by
  obtain ⟨⟨vs, e, r⟩, _⟩ := h
  exact ⟨q, vs, rfl, .inl rfl, e, r.mono PExt.frz _ _⟩
theorem se_fz {mr : Ls → Sto → R (List D)} (h : SF X W e mr) : SE X W e (eFz mr) := PE.imp h fun σ H Q ⟨L, S, g, l, w, p⟩ => ⟨L, S, g, l, w, by
  unfold eFz at p
  cases q : mr L S with
  | ok ds S1 =>
    rw [q] at p
    exact fun v H1 g1 e1 w1 ⟨a, h1, h2, h3⟩ => p v H1 (g1.frz a) (e1.frzNew h2) (w1.frzOwn h3) (by rw [h1]; exact h3.frz)
  | ex x S1 => rw [q] at p; exact p
  | no => rw [q] at p; exact p⟩
theorem Ext.pushNew {H : Hp} {H1 : Hp} {g g1 : G} {q : Addr} (e : Ext H g H1 g1) (hq : H q = none) : Ext H g H1 (g1.push q) where
  toPExt := e.toPExt.trans ⟨fun _ h => h, fun _ _ _ h => h, fun _ _ h => h, fun _ _ _ h => h, Nat.le_succ _, fun i hi => if_neg (Nat.ne_of_lt hi)⟩
  keep := e.keep
  newF := e.newF
  newρ := fun i h1 h2 => by
    show H (if i = g1.n then q else g1.ρ i) = none
    by_cases z : i = g1.n
    · rw [if_pos z]; exact hq
    · rw [if_neg z]
      have h3 : i < g1.n + 1 := h2
      exact e.newρ i h1 (by omega)
  tr := e.tr
theorem WF.pushOwn {k : Kx} {H : Hp} {g : G} {S : Sto} {q : Addr} {o : O} (w : WF k H g S) (h : OwnAt k H g q o) : WF k H (g.push q) (S ++ [o]) where
  len := by rw [List.length_append, w.len]; rfl
  ob := fun i u e => by
    have pe : PExt H g H (g.push q) := ⟨fun _ h => h, fun _ _ _ h => h, fun _ _ h => h, fun _ _ _ h => h, Nat.le_succ _, fun i hi => if_neg (Nat.ne_of_lt hi)⟩
    by_cases hi : i < g.n
    · rw [List.getElem?_append_left (by rw [w.len]; exact hi)] at e
      show ORep k _ _ u (if i = g.n then q else g.ρ i)
      rw [if_neg (Nat.ne_of_lt hi)]
      exact (w.ob i u e).mono pe fun o z => z
    · rw [List.getElem?_append_right (by rw [w.len]; exact Nat.le_of_not_lt hi), w.len] at e
      have e0 : i - g.n = 0 := by
        rcases Nat.eq_zero_or_pos (i - g.n) with z | z
        · exact z
        · rw [List.getElem?_eq_none (by simp only [List.length_singleton]; omega)] at e; cases e
      have ei : i = g.n := by omega
      rw [e0] at e
      cases e
      show ORep k _ _ o (if i = g.n then q else g.ρ i)
      rw [if_pos ei]
      exact h.1.mono pe fun o z => z
  inj := fun i j hi hj e => by
    have e' : (if i = g.n then q else g.ρ i) = (if j = g.n then q else g.ρ j) := e
    have h3 : i < g.n + 1 := hi
    have h4 : j < g.n + 1 := hj
    by_cases h1 : i = g.n
    · by_cases h2 : j = g.n
      · omega
      · rw [if_pos h1, if_neg h2] at e'
        exact absurd e'.symm (h.2.2 j (by omega))
    · by_cases h2 : j = g.n
      · rw [if_neg h1, if_pos h2] at e'
        exact absurd e' (h.2.2 i (by omega))
      · rw [if_neg h1, if_neg h2] at e'
        exact w.inj i j (by omega) (by omega) e'
  nF := fun i hi f => by
    have f' : g.F (if i = g.n then q else g.ρ i) := f
    have h3 : i < g.n + 1 := hi
    by_cases h1 : i = g.n
    · rw [if_pos h1] at f'
      exact h.2.1 f'
    · rw [if_neg h1] at f'
      exact w.nF i (by omega) f'
  tF := fun a f => w.tF a f
theorem se_nw {mr : Ls → Sto → R (List D)} (h : SF X W e mr) : SE X W e (eNw mr) := PE.imp h fun σ H Q ⟨L, S, g, l, w, p⟩ => ⟨L, S, g, l, w, by
  unfold eNw at p
  cases q : mr L S with
  | ok ds S1 =>
    rw [q] at p
    refine fun v H1 g1 e1 w1 ⟨a, h1, h2, h3⟩ => p v H1 (g1.push a) (e1.pushNew h2) (w1.pushOwn h3) ?_
    rw [h1]
    refine ⟨by rw [w1.len]; exact Nat.lt_succ_self _, ?_⟩
    show V.ref a = V.ref (if S1.length = g1.n then a else _)
    rw [if_pos w1.len]
  | ex x S1 => rw [q] at p; exact p
  | no => rw [q] at p; exact p⟩

/-! ### tests -/
def tNt (m : Ls → Sto → R Bool) : Ls → Sto → R Bool := fun L S => (m L S).bind fun b S1 => .ok (!b) S1
def tAn (ma mb : Ls → Sto → R Bool) : Ls → Sto → R Bool := fun L S => (ma L S).bind fun b S1 => if b = true then mb L S1 else .ok false S1
def tOo (ma mb : Ls → Sto → R Bool) : Ls → Sto → R Bool := fun L S => (ma L S).bind fun b S1 => if b = true then .ok true S1 else mb L S1
variable {ta tb tc : Ls → Sto → R Bool} {pos : Pos} {rest : List Expr}
theorem st_not (h : ST X W a ta) : ST X W (.UnaryOp .Not a pos) (tNt ta) :=
  PT.imp (pt_not h) fun σ H Q ⟨L, S, g, l, w, p⟩ => ⟨L, S, g, l, w, Post.bind p fun b S1 c H1 g1 e1 w1 r1 p1 => by cases r1; exact Post.ret p1 w1 rfl⟩
abbrev SW (X : Cx) (W : WX) (e : Expr) (m : Ls → Sto → R Bool) : Prop := PW X e (tT (kx X) W m)
theorem PW.imp {e : Expr} {t t' : TT} (h : PW X e t) (i : ∀ σ H Q, t' σ H Q → t σ H Q) : PW X e t' := ⟨fun wh pins s σ H Q I q => h.run wh pins s σ H Q I (i σ H Q q)⟩
theorem sw_and1 (h : ST X W a ta) : SW X W (.BoolOp .And [a] pos) ta := pw_and1 h
theorem sw_or1 (h : ST X W a ta) : SW X W (.BoolOp .Or [a] pos) ta := pw_or1 h
theorem sw_and (ha : ST X W a ta) (hb : SW X W (.BoolOp .And (b :: rest) pos) tb) : SW X W (.BoolOp .And (a :: b :: rest) pos) (tAn ta tb) :=
  PW.imp (pw_and ha hb) fun σ H Q ⟨L, S, g, l, w, p⟩ => ⟨L, S, g, l, w, Post.bind p fun c S1 c' H1 g1 e1 w1 r1 p1 => by
    cases r1
    cases c with
    | true => exact ⟨L, S1, g1, l.ext e1, w1, p1⟩
    | false => exact Post.ret p1 w1 rfl⟩
theorem sw_or (ha : ST X W a ta) (hb : SW X W (.BoolOp .Or (b :: rest) pos) tb) : SW X W (.BoolOp .Or (a :: b :: rest) pos) (tOo ta tb) :=
  PW.imp (pw_or ha hb) fun σ H Q ⟨L, S, g, l, w, p⟩ => ⟨L, S, g, l, w, Post.bind p fun c S1 c' H1 g1 e1 w1 r1 p1 => by
    cases r1
    cases c with
    | true => exact Post.ret p1 w1 rfl
    | false => exact ⟨L, S1, g1, l.ext e1, w1, p1⟩⟩
/-- a value's truth -/
def truth : D → Option Bool
  | .non => some false
  | .bl b => some b
  | .int i => some (i != 0)
  | .str x => if x.length ≤ sizeLine then some (!x.isEmpty) else none
  | .tup xs => some (!xs.isEmpty)
  | .lst xs => some (!xs.isEmpty)
  | _ => none
def tTr (m : EM) : Ls → Sto → R Bool := fun L S => (m L S).bind fun d S1 => lift (truth (deref S1 d)) S1
theorem isEmpty_rep {k : Kx} {H : Hp} {g : G} {ds : List D} {vs : List V} (r : RepL k H g ds vs) : ds.isEmpty = vs.isEmpty := by
  cases ds with
  | nil => cases (show vs = [] from r); rfl
  | cons d ds => obtain ⟨v, u, rfl, _⟩ := r; rfl
theorem truth_v {k : Kx} {H : Hp} {g : G} {d : D} {v : V} {b : Bool} (h : truth d = some b) (c : CRep k H g d v) : TruV k.K v H b := by
  cases d with
  | non => cases c; cases h; rfl
  | bl b => cases c; cases h; rfl
  | int i => cases c; cases h; rfl
  | str x =>
    cases c
    simp only [truth] at h
    split at h
    · rename_i hz
      cases h
      refine ⟨by rw [mk_len]; exact hz, ?_⟩
      rw [mk_len]
      cases x with
      | nil => rfl
      | cons c x =>
        show true = _
        rw [eq_comm, bne_iff_ne]
        simp only [List.length_cons]
        omega
    · cases h
  | tup xs =>
    cases h
    obtain ⟨a, vs, rfl, h1, h2⟩ := c
    exact .inr (.inl ⟨vs, h1.sq, by rw [isEmpty_rep h2]⟩)
  | lst xs =>
    cases h
    obtain ⟨a, vs, rfl, h1, h2⟩ := c
    exact .inl ⟨vs, SqL.of h1, by rw [isEmpty_rep h2]⟩
  | _ => cases h
theorem st_truth (h : SP X W e m) (ht : plainTest e = true) : ST X W e (tTr m) :=
  PT.imp (pt_truth h (plain_true ht)) fun σ H Q ⟨L, S, g, l, w, p⟩ => ⟨L, S, g, l, w, Post.bind p fun d S1 v H1 g1 e1 w1 r1 p1 => by
    cases q : truth (deref S1 d) with
    | none => rw [q] at p1; exact p1.elim
    | some b =>
      rw [q] at p1
      exact ⟨b, truth_v q (r1.c (l.ext e1) w1), Post.ret p1 w1 rfl⟩⟩

/-! ### and, or, not as values (truths), if else -/
def eAn (ma mb : EM) : EM := fun L S => (ma L S).bind fun d S1 => match d with
  | .bl true => mb L S1
  | .bl false => .ok (.bl false) S1
  | _ => .no
def eOo (ma mb : EM) : EM := fun L S => (ma L S).bind fun d S1 => match d with
  | .bl true => .ok (.bl true) S1
  | .bl false => mb L S1
  | _ => .no
def eNt (ma : EM) : EM := fun L S => (ma L S).bind fun d S1 => match d with
  | .bl b => .ok (.bl (!b)) S1
  | _ => .no
theorem se_one {op : BoolOp} (h : SE X W a ma) : SE X W (.BoolOp op [a] pos) ma := pe_one h
theorem se_and (ha : SE X W a ma) (hb : SE X W (.BoolOp .And (b :: rest) pos) mb) : SE X W (.BoolOp .And (a :: b :: rest) pos) (eAn ma mb) :=
  PE.imp (pe_and ha hb) fun σ H Q ⟨L, S, g, l, w, p⟩ => ⟨L, S, g, l, w, Post.bind p fun d S1 v H1 g1 e1 w1 r1 p1 => by
    cases d with
    | bl c =>
      cases r1
      refine ⟨c, rfl, ?_⟩
      cases c with
      | true => exact ⟨L, S1, g1, l.ext e1, w1, p1⟩
      | false => exact Post.ret p1 w1 rfl
    | _ => exact p1.elim⟩
theorem se_or (ha : SE X W a ma) (hb : SE X W (.BoolOp .Or (b :: rest) pos) mb) : SE X W (.BoolOp .Or (a :: b :: rest) pos) (eOo ma mb) :=
  PE.imp (pe_or ha hb) fun σ H Q ⟨L, S, g, l, w, p⟩ => ⟨L, S, g, l, w, Post.bind p fun d S1 v H1 g1 e1 w1 r1 p1 => by
    cases d with
    | bl c =>
      cases r1
      refine ⟨c, rfl, ?_⟩
      cases c with
      | false => exact ⟨L, S1, g1, l.ext e1, w1, p1⟩
      | true => exact Post.ret p1 w1 rfl
    | _ => exact p1.elim⟩
theorem se_not (ha : SE X W a ma) : SE X W (.UnaryOp .Not a pos) (eNt ma) :=
  PE.imp (pe_not ha) fun σ H Q ⟨L, S, g, l, w, p⟩ => ⟨L, S, g, l, w, Post.bind p fun d S1 v H1 g1 e1 w1 r1 p1 => by
    cases d with
    | bl c => cases r1; exact ⟨c, rfl, Post.ret p1 w1 rfl⟩
    | _ => exact p1.elim⟩
def eIf (t : Ls → Sto → R Bool) (ma mb : EM) : EM := fun L S => (t L S).bind fun c S1 => if c = true then ma L S1 else mb L S1
theorem se_if (hc : ST X W c tc) (ha : SE X W a ma) (hb : SE X W b mb) : SE X W (.IfExp c a b pos) (eIf tc ma mb) :=
  PE.imp (pe_ifExp hc ha hb) fun σ H Q ⟨L, S, g, l, w, p⟩ => ⟨L, S, g, l, w, Post.bind p fun d S1 d' H1 g1 e1 w1 r1 p1 => by
    cases r1
    cases d with
    | true => exact ⟨L, S1, g1, l.ext e1, w1, p1⟩
    | false => exact ⟨L, S1, g1, l.ext e1, w1, p1⟩⟩
def eNeg (ma : EM) : EM := fun L S => (ma L S).bind fun d S1 => match d with
  | .int i => .ok (.int (-i)) S1
  | _ => .no
theorem se_neg (ha : SE X W a ma) : SE X W (.UnaryOp .USub a pos) (eNeg ma) :=
  PE.imp (pe_un un_neg ha) fun σ H Q ⟨L, S, g, l, w, p⟩ => ⟨L, S, g, l, w, Post.bind p fun d S1 v H1 g1 e1 w1 r1 p1 => by
    cases d with
    | int i => cases r1; exact ⟨i, rfl, Post.ret p1 w1 rfl⟩
    | _ => exact p1.elim⟩

/-! ### two comparisons in a row -/
def eCh (o o' : D → D → Option D) (ma mb mc : EM) : EM := fun L S => (ma L S).bind fun x S1 => (mb L S1).bind fun y S2 => match o (deref S2 x) (deref S2 y) with
  | some (.bl true) => (mc L S2).bind fun z S3 => lift (o' (deref S3 y) (deref S3 z)) S3
  | some (.bl false) => .ok (.bl false) S2
  | _ => .no
theorem ch_ops {k : Kx} {o o' : D → D → Option D} {σ : L2.St} {H : Hp} {Q : VK} {Wf : WX} (h : tE k Wf (eCh o o' ma mb mc) σ H Q) :
    tChain (fun x y H Q => ∃ g S d e res, WF k H g S ∧ CRep k H g d x ∧ CRep k H g e y ∧ o d e = some res ∧ ∀ v H' g', Ext H g H' g' → WF k H' g' S → Rep k H' g' res v → Q v H')
      (fun x y H Q => ∃ g S d e res, WF k H g S ∧ CRep k H g d x ∧ CRep k H g e y ∧ o' d e = some res ∧ ∀ v H' g', Ext H g H' g' → WF k H' g' S → Rep k H' g' res v → Q v H')
      (tP k Wf ma) (tP k Wf mb) (tP k Wf mc) σ H Q := by
  obtain ⟨L, S, g, l, w, p⟩ := h
  refine ⟨L, S, g, l, w, Post.bind p fun x S1 xv H1 g1 e1 w1 r1 p1 => ?_⟩
  refine ⟨L, S1, g1, l.ext e1, w1, Post.bind p1 fun y S2 yv H2 g2 e2 w2 r2 p2 => ?_⟩
  have l2 := (l.ext e1).ext e2
  cases q : o (deref S2 x) (deref S2 y) with
  | none => rw [q] at p2; exact p2.elim
  | some res =>
    rw [q] at p2
    cases res with
    | bl b =>
      refine ⟨g2, S2, _, _, _, w2, (r1.ext e2.toPExt).c l2 w2, r2.c l2 w2, q, fun v H3 g3 e3 w3 r3 => ?_⟩
      cases (show v = .bl b from r3)
      refine ⟨b, rfl, ?_⟩
      cases b with
      | false => exact Post.ret (Post.from p2 e3) w3 rfl
      | true =>
        refine ⟨L, S2, g3, l2.ext e3, w3, Post.bind (Post.from p2 e3) fun z S4 zv H4 g4 e4 w4 r4 p4 => ?_⟩
        have l4 := (l2.ext e3).ext e4
        cases q' : o' (deref S4 y) (deref S4 z) with
        | none => rw [q'] at p4; exact p4.elim
        | some res' =>
          rw [q'] at p4
          exact ⟨g4, S4, _, _, res', w4, ((r2.ext e3.toPExt).ext e4.toPExt).c l4 w4, r4.c l4 w4, q', p4⟩
    | _ => exact p2.elim
theorem last_marks {op op' : CmpOp} (h : notMark c = true) : lastMarks [op, op'] [b, c] = false := not_mark h
theorem se_chain {op op' : CmpOp} {o o' : D → D → Option D} (h : OpC X (compareOp op) o) (h' : OpC X (compareOp op') o') (ha : SP X W a ma) (hb : SP X W b mb) (hc : SP X W c mc) (hm : notMark c = true) :
    SE X W (.Compare a [op, op'] [b, c] pos) (eCh o o' ma mb mc) :=
  PE.imp (pe_chain (OpR.ex h) (OpR.ex h') ha hb hc (last_marks hm)) fun σ H Q q => ch_ops q
theorem st_chain {op op' : CmpOp} {o o' : D → D → Option D} (h : OpC X (compareOp op) o) (h' : OpC X (compareOp op') o') (ha : SP X W a ma) (hb : SP X W b mb) (hc : SP X W c mc) (hm : notMark c = true) :
    ST X W (.Compare a [op, op'] [b, c] pos) (tOfE (eCh o o' ma mb mc)) :=
  PT.imp (pt_chain (OpR.ex h) (OpR.ex h') ha hb hc (last_marks hm)) fun σ H Q q => ch_ops (tt_of q)

/-! ### a[i], a[lo:hi] -/
theorem RepL.atI {k : Kx} {H : Hp} {g : G} {ds : List D} {vs : List V} {i : Int} {d : D} (r : RepL k H g ds vs) (h : L2.atI ds i = some d) : ∃ v, L2.atI vs i = some v ∧ Rep k H g d v := by
  unfold L2.atI at h ⊢
  rw [r.length]
  cases q : ixN ds.length i with
  | none => rw [q] at h; cases h
  | some j =>
    rw [q] at h
    exact r.get h
def oIx : D → D → Option D
  | .lst xs, .int i => L2.atI xs i
  | .tup xs, .int i => L2.atI xs i
  | .str x, .int i => if x.length ≤ sizeLine then (L2.atI x i).map fun c => .str [c] else none
  | _, _ => none
theorem ix_ok : IxR X (fun x y H Q => ∃ g S d e res, WF (kx X) H g S ∧ CRep (kx X) H g d x ∧ CRep (kx X) H g e y ∧ oIx d e = some res ∧ ∀ v H' g', Ext H g H' g' → WF (kx X) H' g' S → Rep (kx X) H' g' res v → Q v H') := by
  rintro value slice pins s σ H x y v u Q I rx ry ⟨g, S, d, e, res, w, c1, c2, h, q⟩ hs
  unfold oIx at h
  split at h
  · cases c2
    obtain ⟨p, vs, rfl, hp, r⟩ := c1
    obtain ⟨z, hz, rz⟩ := r.atI h
    exact ix_list value slice pins s σ H _ _ v u Q I rx ry ⟨p, vs, _, z, rfl, rfl, SqL.of hp, hz, scalar_fin q w rz⟩ hs
  · cases c2
    obtain ⟨p, vs, rfl, hp, r⟩ := c1
    obtain ⟨z, hz, rz⟩ := r.atI h
    exact ix_tup value slice pins s σ H _ _ v u Q I rx ry ⟨p, vs, _, z, rfl, rfl, hp.sq, hz, scalar_fin q w rz⟩ hs
  · split at h
    · rename_i x i hz
      cases c2; cases c1
      obtain ⟨c, hc, rfl⟩ := Option.map_eq_some_iff.mp h
      exact ix_str value slice pins s σ H _ _ v u Q I rx ry ⟨_, _, c, rfl, rfl, by rw [mk_len]; exact hz, by simpa using hc, scalar_fin q w rfl⟩ hs
    · cases h
  · cases h
theorem se_ix (ha : SP X W a ma) (hb : SP X W b mb) (hn : notSlice b = true) : SE X W (.Subscript a b pos) (eBin oIx ma mb) :=
  PE.imp (pe_ix ix_ok ha hb (not_slice hn)) fun σ H Q q => two_ops q
/-- a slice's part -/
def tO (k : Kx) (W : WX) (m : Ls → Sto → R (Option Int)) : TO := fun σ H Q => ∃ L S g, LocRel k σ L H g ∧ WF k H g S ∧ Post k (fun _ _ (b c : Option Int) => c = b) H g (fun c d => W c d σ) (m L S) Q
abbrev SO (X : Cx) (W : WX) (e : Option Expr) (m : Ls → Sto → R (Option Int)) : Prop := PO X e (tO (kx X) W m)
def oNo : Ls → Sto → R (Option Int) := fun _ S => .ok none S
def oSo (m : EM) : Ls → Sto → R (Option Int) := fun L S => (m L S).bind fun d S1 => match d with
  | .int i => .ok (some i) S1
  | .non => .ok none S1
  | _ => .no
theorem so_none : SO X W none oNo := ⟨fun pins s σ H Q I ⟨L, S, g, l, w, p⟩ => po_none.run pins s σ H Q I (Post.ret p w rfl)⟩
theorem so_some (h : SE X W e m) : SO X W (some e) (oSo m) := by
  refine ⟨fun pins s σ H Q I ⟨L, S, g, l, w, p⟩ => ?_⟩
  rw [evalPart_some]
  refine thn (h.run pins s σ H (fun x H1 => ∃ o, (x = .non ∧ o = none ∨ ∃ i, x = .int i ∧ o = some i) ∧ Q o H1) I ⟨L, S, g, l, w, Post.bind p fun d S1 v H1 g1 e1 w1 r1 p1 => ?_⟩) fun u s1 ⟨x, H1, I1, r1, o, ho, q1⟩ => ?_
  · cases d with
    | non => cases r1; exact ⟨none, .inl ⟨rfl, rfl⟩, Post.ret p1 w1 rfl⟩
    | int i => cases r1; exact ⟨some i, .inr ⟨i, rfl, rfl⟩, Post.ret p1 w1 rfl⟩
    | _ => exact p1.elim
  · rcases ho with ⟨rfl, rfl⟩ | ⟨i, rfl, rfl⟩
    · cases r1
      exact ⟨none, H1, I1, .none, q1⟩
    · obtain ⟨t, rfl⟩ := r1
      exact ⟨some i, H1, I1, .int i t, q1⟩
def cutD {α : Type} (xs : List α) (lo hi : Option Int) : List α := (xs.drop (HT.sIx xs.length 0 lo)).take (HT.sIx xs.length xs.length hi - HT.sIx xs.length 0 lo)
def oSl : D → Option Int → Option Int → Option D
  | .lst xs, lo, hi => some (.lst (cutD xs lo hi))
  | .tup xs, lo, hi => some (.tup (cutD xs lo hi))
  | .str x, lo, hi => if x.length ≤ sizeLine then some (.str (cutD x lo hi)) else none
  | .scr ns, lo, hi => some (.lst (cutD (ns.map .int) lo hi))
  | _, _, _ => none
theorem RepL.cut {k : Kx} {H : Hp} {g : G} {ds : List D} {vs : List V} (r : RepL k H g ds vs) (lo hi : Option Int) : RepL k H g (cutD ds lo hi) (cutV vs lo hi) := by
  unfold cutD cutV
  rw [r.length]
  exact (r.drop _).take _
theorem RepL.ints {k : Kx} {H : Hp} {g : G} : ∀ ns : List Int, RepL k H g (ns.map .int) (ns.map V.int)
  | [] => rfl
  | n :: ns => ⟨_, _, rfl, rfl, RepL.ints ns⟩
theorem sl_ok : SlR X (fun x lo hi H Q => ∃ g S d res, WF (kx X) H g S ∧ CRep (kx X) H g d x ∧ oSl d lo hi = some res ∧ ∀ v H' g', Ext H g H' g' → WF (kx X) H' g' S → Rep (kx X) H' g' res v → Q v H') := by
  rintro pins s σ H x v vl vu lo hi sl Q I rx hs pl pu ⟨g, S, d, res, w, c, h, q⟩
  cases d with
  | lst xs =>
    cases h
    obtain ⟨p, vs, rfl, hp, r⟩ := c
    exact sl_list pins s σ H _ v vl vu lo hi sl Q I rx hs pl pu ⟨p, vs, rfl, SqL.of hp, fun p' hp' => lst_fin q w (r.cut lo hi) hp'⟩
  | scr ns =>
    cases h
    obtain ⟨p, rfl, hp⟩ := c
    exact sl_list pins s σ H _ v vl vu lo hi sl Q I rx hs pl pu ⟨p, _, rfl, hp.sq, fun p' hp' => lst_fin q w ((RepL.ints ns).cut lo hi) hp'⟩
  | tup xs =>
    cases h
    obtain ⟨p, vs, rfl, hp, r⟩ := c
    refine sl_tupA pins s σ H _ v vl vu lo hi sl Q I rx hs pl pu ⟨p, vs, rfl, hp.sq, fun hw => scalar_fin q w ⟨p, vs, rfl, hp, ?_⟩, fun _ p' hp' => tup_fin q w (r.cut lo hi) hp'⟩
    have e : cutD xs lo hi = xs := by
      unfold cutD
      rw [r.length] at hw
      rw [hw.1, hw.2, List.drop_zero, Nat.sub_zero, List.take_length]
    rw [e]; exact r
  | str z =>
    simp only [oSl] at h
    split at h
    · rename_i hz
      cases h
      cases c
      refine sl_str pins s σ H _ v vl vu lo hi sl Q I rx hs pl pu ⟨_, rfl, by rw [mk_len]; exact hz, scalar_fin q w ?_⟩
      show V.str (cutS _ lo hi) = V.str _
      unfold cutS cutD
      rw [mk_len]
    · cases h
  | _ => cases h
def eSl (ma : EM) (ml mh : Ls → Sto → R (Option Int)) : EM := fun L S => (ma L S).bind fun d S1 => (ml L S1).bind fun lo S2 => (mh L S2).bind fun hi S3 => lift (oSl (deref S3 d) lo hi) S3
theorem se_sl {lo hi : Option Expr} {ml mh : Ls → Sto → R (Option Int)} {p2 : Pos} (ha : SP X W a ma) (hl : SO X W lo ml) (hh : SO X W hi mh) : SE X W (.Subscript a (.Slice lo hi none p2) pos) (eSl ma ml mh) :=
  PE.imp (pe_slice sl_ok ha hl hh) fun σ H Q ⟨L, S, g, l, w, p⟩ => ⟨L, S, g, l, w, Post.bind p fun d S1 v H1 g1 e1 w1 r1 p1 =>
    ⟨L, S1, g1, l.ext e1, w1, Post.bind p1 fun lo' S2 lo2 H2 g2 e2 w2 r2 p2 => by
      cases r2
      exact ⟨L, S2, g2, (l.ext e1).ext e2, w2, Post.bind p2 fun hi' S3 hi2 H3 g3 e3 w3 r3 p3 => by
        cases r3
        have l3 := ((l.ext e1).ext e2).ext e3
        cases q : oSl (deref S3 d) lo' hi' with
        | none => rw [q] at p3; exact p3.elim
        | some res =>
          rw [q] at p3
          exact ⟨g3, S3, _, res, w3, ((r1.ext e2.toPExt).ext e3.toPExt).c l3 w3, q, p3⟩⟩⟩⟩
end
end Rf

set_option Elab.async false
set_option linter.all false
set_option maxRecDepth 100000
/-! Rf, part 5: calls of built-ins, of methods of texts, of defs. -/
namespace Rf
open PySem L2 TL

def CRepL (k : Kx) (H : Hp) (g : G) : List D → List V → Prop
  | [], vs => vs = []
  | d :: ds, vs => ∃ v r, vs = v :: r ∧ CRep k H g d v ∧ CRepL k H g ds r
theorem PkL.c {k : Kx} {σ : L2.St} {L : Ls} {H : Hp} {g : G} {S : Sto} (l : LocRel k σ L H g) (w : WF k H g S) : ∀ {ds : List D} {vs : List V}, PkL k σ L H g ds vs → CRepL k H g (ds.map (deref S)) vs
  | [], _, h => h
  | _ :: _, _, ⟨v, r, h1, h2, h3⟩ => ⟨v, r, h1, h2.c l w, PkL.c l w h3⟩
/-- a call on contents -/
def CallC (X : Cx) (f : Value) (o : List D → Option D) : Prop :=
  ∀ (ds : List D) (res : D), o ds = some res → CallR X f (fun xs H Q => ∃ g S, WF (kx X) H g S ∧ CRepL (kx X) H g ds xs ∧
    ∀ v H' g', Ext H g H' g' → WF (kx X) H' g' S → Rep (kx X) H' g' res v → Q v H')
theorem CallR.ex {X : Cx} {f : Value} {o : List D → Option D} (h : CallC X f o) : CallR X f (fun xs H Q => ∃ g S ds res, WF (kx X) H g S ∧ CRepL (kx X) H g ds xs ∧ o ds = some res ∧
    ∀ v H' g', Ext H g H' g' → WF (kx X) H' g' S → Rep (kx X) H' g' res v → Q v H') := by
  intro pins s σ H xs us Q I r q
  obtain ⟨g, S, ds, res, w, c, q1, q2⟩ := q
  exact h ds res q1 pins s σ H xs us Q I r ⟨g, S, w, c, q2⟩
def eCall (o : List D → Option D) (ma : Ls → Sto → R (List D)) : EM := fun L S => (ma L S).bind fun ds S1 => lift (o (ds.map (deref S1))) S1
theorem call_ops {k : Kx} {o : List D → Option D} {σ : L2.St} {H : Hp} {Q : VK} {Wf : WX} {ma : Ls → Sto → R (List D)} (h : tE k Wf (eCall o ma) σ H Q) :
    tA k Wf ma σ H fun xs H1 => ∃ g S ds res, WF k H1 g S ∧ CRepL k H1 g ds xs ∧ o ds = some res ∧ ∀ v H' g', Ext H1 g H' g' → WF k H' g' S → Rep k H' g' res v → Q v H' := by
  obtain ⟨L, S, g, l, w, p⟩ := h
  refine ⟨L, S, g, l, w, Post.bind p fun ds S1 vs H1 g1 e1 w1 r1 p1 => ?_⟩
  cases q : o (ds.map (deref S1)) with
  | none => rw [q] at p1; exact p1.elim
  | some res =>
    rw [q] at p1
    exact ⟨g1, S1, _, res, w1, r1.c (l.ext e1) w1, q, p1⟩
section
variable {X : Cx} {W : WX} {e : Expr} {es : List Expr} {x : Str} {p pos : Pos} {ma : Ls → Sto → R (List D)} {o : List D → Option D}
theorem se_callB {id : String} (h : CallC X (.builtin id) o) (hg : Gl X x) (hm : X.mg x = none) (hv : bootBuiltins x = some (.builtin id)) (ha : SA X W (e :: es) ma) (hs : (e :: es).all noStar = true) (hn : x ≠ "__name__") (hd : (x == ("__debug__" : Str)) = false) :
    SE X W (.Call (.Name x p) (e :: es) [] pos) (eCall o ma) := by
  have hs' : noStar e = true ∧ es.all noStar = true := by rwa [List.all_cons, Bool.and_eq_true] at hs
  exact PE.imp (pe_callB (CallR.ex h) hg hm hv ha hn hd (star_cons hs'.1) (star_any hs'.2)) fun σ H Q q => call_ops q
theorem se_callT {T : String} (h : CallC X (.type T) o) (hg : Gl X x) (hm : X.mg x = none) (hv : bootBuiltins x = some (.type T)) (ha : SA X W (e :: es) ma) (hs : (e :: es).all noStar = true) (hn : x ≠ "__name__") (hd : (x == ("__debug__" : Str)) = false) :
    SE X W (.Call (.Name x p) (e :: es) [] pos) (eCall o ma) := by
  have hs' : noStar e = true ∧ es.all noStar = true := by rwa [List.all_cons, Bool.and_eq_true] at hs
  exact PE.imp (pe_callTy (CallR.ex h) hg hm hv ha hn hd (star_cons hs'.1) (star_any hs'.2)) fun σ H Q q => call_ops q
end
/-! ### a call that gives a new list -/
def CallF (X : Cx) (f : Value) (o : List D → Option (List D)) : Prop :=
  ∀ (ds : List D) (res : List D), o ds = some res → CallR X f (fun xs H Q => ∃ g S, WF (kx X) H g S ∧ CRepL (kx X) H g ds xs ∧
    ∀ q vs, H q = none → RepL (kx X) H g res vs → Q (.ref q) (upd H q (.lst vs)))
theorem CallR.exF {X : Cx} {f : Value} {o : List D → Option (List D)} (h : CallF X f o) : CallR X f (fun xs H Q => ∃ g S ds res, WF (kx X) H g S ∧ CRepL (kx X) H g ds xs ∧ o ds = some res ∧
    ∀ q vs, H q = none → RepL (kx X) H g res vs → Q (.ref q) (upd H q (.lst vs))) := by
  intro pins s σ H xs us Q I r q
  obtain ⟨g, S, ds, res, w, c, q1, q2⟩ := q
  exact h ds res q1 pins s σ H xs us Q I r ⟨g, S, w, c, q2⟩
def fCall (o : List D → Option (List D)) (ma : Ls → Sto → R (List D)) : Ls → Sto → R (List D) := fun L S => (ma L S).bind fun ds S1 => lift (o (ds.map (deref S1))) S1
theorem callF_ops {k : Kx} {o : List D → Option (List D)} {σ : L2.St} {H : Hp} {Q : VK} {Wf : WX} {ma : Ls → Sto → R (List D)} (h : tF k Wf (fCall o ma) σ H Q) :
    tA k Wf ma σ H fun xs H1 => ∃ g S ds res, WF k H1 g S ∧ CRepL k H1 g ds xs ∧ o ds = some res ∧ ∀ q vs, H1 q = none → RepL k H1 g res vs → Q (.ref q) (upd H1 q (.lst vs)) := by
  obtain ⟨L, S, g, l, w, p⟩ := h
  refine ⟨L, S, g, l, w, Post.bind p fun ds S1 vs H1 g1 e1 w1 r1 p1 => ?_⟩
  cases q : o (ds.map (deref S1)) with
  | none => rw [q] at p1; exact p1.elim
  | some res =>
    rw [q] at p1
    exact ⟨g1, S1, _, res, w1, r1.c (l.ext e1) w1, q, fun q vs hq r => f_fin e1 w1 r p1 hq⟩
section
variable {X : Cx} {W : WX} {e : Expr} {es : List Expr} {x : Str} {p pos : Pos} {ma : Ls → Sto → R (List D)} {o : List D → Option (List D)}
theorem sf_callB {id : String} (h : CallF X (.builtin id) o) (hg : Gl X x) (hm : X.mg x = none) (hv : bootBuiltins x = some (.builtin id)) (ha : SA X W (e :: es) ma) (hs : (e :: es).all noStar = true) (hn : x ≠ "__name__") (hd : (x == ("__debug__" : Str)) = false) :
    SF X W (.Call (.Name x p) (e :: es) [] pos) (fCall o ma) := by
  have hs' : noStar e = true ∧ es.all noStar = true := by rwa [List.all_cons, Bool.and_eq_true] at hs
  exact PE.imp (pe_callB (CallR.exF h) hg hm hv ha hn hd (star_cons hs'.1) (star_any hs'.2)) fun σ H Q q => callF_ops q
theorem sf_callT {T : String} (h : CallF X (.type T) o) (hg : Gl X x) (hm : X.mg x = none) (hv : bootBuiltins x = some (.type T)) (ha : SA X W (e :: es) ma) (hs : (e :: es).all noStar = true) (hn : x ≠ "__name__") (hd : (x == ("__debug__" : Str)) = false) :
    SF X W (.Call (.Name x p) (e :: es) [] pos) (fCall o ma) := by
  have hs' : noStar e = true ∧ es.all noStar = true := by rwa [List.all_cons, Bool.and_eq_true] at hs
  exact PE.imp (pe_callTy (CallR.exF h) hg hm hv ha hn hd (star_cons hs'.1) (star_any hs'.2)) fun σ H Q q => callF_ops q
end

/-! ### the built-ins -/
/-- an int's text -/
def intS : Int → List Nat
  | .ofNat n => numL n
  | .negSucc n => 45 :: numL (n + 1)
theorem toString_intS (i : Int) : (Str.ofString (toString i)) = ⟨(intS i).toArray⟩ := by
  cases i with
  | ofNat n =>
    have h := tl_num n
    exact (mk_tl _).symm.trans (by rw [show (Int.ofNat n) = ((n : Nat) : Int) from rfl, h] <;> rfl)
  | negSucc n =>
    have e : (toString (Int.negSucc n) : String) = "-" ++ toString (n + 1) := rfl
    have h2 := tl_num (n + 1)
    have h3 : (toString ((n + 1 : Nat) : Int) : String) = toString (n + 1) := rfl
    rw [h3, tl_ofString] at h2
    rw [e, PySem.Str.ofString_eq_toList]
    congr 2
    rw [String.toList_append, List.map_append]
    show [45] ++ _ = _
    rw [h2] <;> rfl
def lenD : D → Option Nat
  | .str x => if x.length ≤ sizeLine then some x.length else none
  | .tup xs => some xs.length
  | .lst xs => some xs.length
  | .scr ns => some ns.length
  | _ => none
def bLen : List D → Option D
  | [d] => (lenD d).map fun (n : Nat) => D.int (n : Int)
  | _ => none
def bAbs : List D → Option D
  | [.int i] => some (.int (if i < 0 then -i else i))
  | _ => none
def bInt : List D → Option D
  | [.int i] => some (.int i)
  | [.bl b] => some (.int (if b then 1 else 0))
  | _ => none
def bStr : List D → Option D
  | [.int i] => if i.natAbs.log2 < 1920 then some (.str (intS i)) else none
  | _ => none
def bMax2 : List D → Option D
  | [.int i, .int j] => some (.int (if j > i then j else i))
  | _ => none
def bMin2 : List D → Option D
  | [.int i, .int j] => some (.int (if j < i then j else i))
  | _ => none
def intsD : List D → Option (List Int)
  | [] => some []
  | .int i :: ds => (intsD ds).map (i :: ·)
  | _ :: _ => none
def blsD : List D → Option (List Bool)
  | [] => some []
  | .bl b :: ds => (blsD ds).map (b :: ·)
  | _ :: _ => none
def bSum : List D → Option D
  | [.lst ds] => (intsD ds).map fun ns => .int ns.sum
  | _ => none
def bAll : List D → Option D
  | [.lst ds] => (blsD ds).map fun bs => .bl (bs.all id)
  | _ => none
def bAny : List D → Option D
  | [.lst ds] => (blsD ds).map fun bs => .bl (bs.any id)
  | _ => none
def bTuple : List D → Option D
  | [.lst ds] => some (.tup ds)
  | [.tup ds] => some (.tup ds)
  | [.scr ns] => some (.tup (ns.map .int))
  | _ => none
def fList : List D → Option (List D)
  | [.lst ds] => some ds
  | [.tup ds] => some ds
  | [.scr ns] => some (ns.map .int)
  | _ => none
theorem intsD_v {k : Kx} {H : Hp} {g : G} : ∀ {ds : List D} {vs : List V} {ns : List Int}, intsD ds = some ns → RepL k H g ds vs → vs = ns.map V.int
  | [], _, _, h, r => by cases h; exact r
  | .int i :: ds, _, ns, h, ⟨v, u, h1, h2, h3⟩ => by
    simp only [intsD, Option.map_eq_some_iff] at h
    obtain ⟨ms, hm, rfl⟩ := h
    cases h2
    rw [h1, intsD_v hm h3] <;> rfl
  | .non :: _, _, _, h, _ => by cases h
  | .bl _ :: _, _, _, h, _ => by cases h
  | .str _ :: _, _, _, h, _ => by cases h
  | .tup _ :: _, _, _, h, _ => by cases h
  | .lst _ :: _, _, _, h, _ => by cases h
  | .obj _ :: _, _, _, h, _ => by cases h
  | .gl _ :: _, _, _, h, _ => by cases h
  | .ty _ :: _, _, _, h, _ => by cases h
  | .scr _ :: _, _, _, h, _ => by cases h
theorem blsD_v {k : Kx} {H : Hp} {g : G} : ∀ {ds : List D} {vs : List V} {ns : List Bool}, blsD ds = some ns → RepL k H g ds vs → vs = ns.map V.bl
  | [], _, _, h, r => by cases h; exact r
  | .bl i :: ds, _, ns, h, ⟨v, u, h1, h2, h3⟩ => by
    simp only [blsD, Option.map_eq_some_iff] at h
    obtain ⟨ms, hm, rfl⟩ := h
    cases h2
    rw [h1, blsD_v hm h3] <;> rfl
  | .non :: _, _, _, h, _ => by cases h
  | .int _ :: _, _, _, h, _ => by cases h
  | .str _ :: _, _, _, h, _ => by cases h
  | .tup _ :: _, _, _, h, _ => by cases h
  | .lst _ :: _, _, _, h, _ => by cases h
  | .obj _ :: _, _, _, h, _ => by cases h
  | .gl _ :: _, _, _, h, _ => by cases h
  | .ty _ :: _, _, _, h, _ => by cases h
  | .scr _ :: _, _, _, h, _ => by cases h
section
variable {X : Cx}
theorem c1 {k : Kx} {H : Hp} {g : G} {d : D} {vs : List V} (h : CRepL k H g [d] vs) : ∃ v, vs = [v] ∧ CRep k H g d v := by
  obtain ⟨v, r, h1, h2, h3⟩ := h
  cases (show r = [] from h3)
  exact ⟨v, h1, h2⟩
theorem c2 {k : Kx} {H : Hp} {g : G} {d e : D} {vs : List V} (h : CRepL k H g [d, e] vs) : ∃ v u, vs = [v, u] ∧ CRep k H g d v ∧ CRep k H g e u := by
  obtain ⟨v, r, h1, h2, h3⟩ := h
  obtain ⟨u, rfl, h4⟩ := c1 h3
  exact ⟨v, u, h1, h2, h4⟩
theorem bLen_ok : CallC X (.builtin "len") bLen := by
  rintro ds res h pins s σ H xs us Q I r ⟨g, S, w, c, q⟩
  unfold bLen at h
  split at h
  · rename_i d
    obtain ⟨v, rfl, cv⟩ := c1 c
    obtain ⟨n, hn, rfl⟩ := Option.map_eq_some_iff.mp h
    refine call_len pins s σ H _ us Q I r ⟨v, n, rfl, ?_, scalar_fin q w rfl⟩
    cases d with
    | str x =>
      simp only [lenD] at hn
      split at hn
      · rename_i hz
        cases hn; cases cv
        exact ⟨by rw [mk_len]; exact hz, by rw [mk_len]⟩
      · cases hn
    | tup xs =>
      cases hn
      obtain ⟨p, vs, rfl, hp, r⟩ := cv
      exact .inr ⟨vs, hp.sq, r.length.symm⟩
    | lst xs =>
      cases hn
      obtain ⟨p, vs, rfl, hp, r⟩ := cv
      exact .inl ⟨vs, SqL.of hp, r.length.symm⟩
    | scr ns =>
      cases hn
      obtain ⟨p, rfl, hp⟩ := cv
      exact .inl ⟨_, hp.sq, (List.length_map _).symm⟩
    | _ => cases hn
  · cases h
theorem bAbs_ok : CallC X (.builtin "abs") bAbs := by
  rintro ds res h pins s σ H xs us Q I r ⟨g, S, w, c, q⟩
  unfold bAbs at h
  split at h
  · cases h
    obtain ⟨v, rfl, cv⟩ := c1 c
    cases cv
    exact call_abs pins s σ H _ us Q I r ⟨_, rfl, scalar_fin q w rfl⟩
  · cases h
theorem bInt_ok : CallC X (.type "int") bInt := by
  rintro ds res h pins s σ H xs us Q I r ⟨g, S, w, c, q⟩
  unfold bInt at h
  split at h
  · cases h
    obtain ⟨v, rfl, cv⟩ := c1 c
    cases cv
    exact call_int1 pins s σ H _ us Q I r (.inl ⟨_, rfl, scalar_fin q w rfl⟩)
  · cases h
    obtain ⟨v, rfl, cv⟩ := c1 c
    cases cv
    exact call_int1 pins s σ H _ us Q I r (.inr ⟨_, rfl, scalar_fin q w rfl⟩)
  · cases h
theorem bStr_ok : CallC X (.type "str") bStr := by
  rintro ds res h pins s σ H xs us Q I r ⟨g, S, w, c, q⟩
  unfold bStr at h
  split at h
  · split at h
    · rename_i hz
      cases h
      obtain ⟨v, rfl, cv⟩ := c1 c
      cases cv
      exact call_str_int pins s σ H _ us Q I r ⟨_, rfl, hz, scalar_fin q w (congrArg V.str (toString_intS _))⟩
    · cases h
  · cases h
theorem bMax2_ok (hc : X.calm = true) : CallC X (.builtin "max") bMax2 := by
  rintro ds res h pins s σ H xs us Q I r ⟨g, S, w, c, q⟩
  unfold bMax2 at h
  split at h
  · cases h
    obtain ⟨v, u, rfl, cv, cv'⟩ := c2 c
    cases cv; cases cv'
    exact call_max2 hc pins s σ H _ us Q I r ⟨_, _, rfl, scalar_fin q w rfl⟩
  · cases h
theorem bMin2_ok (hc : X.calm = true) : CallC X (.builtin "min") bMin2 := by
  rintro ds res h pins s σ H xs us Q I r ⟨g, S, w, c, q⟩
  unfold bMin2 at h
  split at h
  · cases h
    obtain ⟨v, u, rfl, cv, cv'⟩ := c2 c
    cases cv; cases cv'
    exact call_min2 hc pins s σ H _ us Q I r ⟨_, _, rfl, scalar_fin q w rfl⟩
  · cases h
theorem bSum_ok (hc : X.calm = true) : CallC X (.builtin "sum") bSum := by
  rintro ds res h pins s σ H xs us Q I r ⟨g, S, w, c, q⟩
  unfold bSum at h
  split at h
  · obtain ⟨ns, hn, rfl⟩ := Option.map_eq_some_iff.mp h
    obtain ⟨v, rfl, p, vs, rfl, hp, rr⟩ := c1 c
    rw [intsD_v hn rr] at hp
    exact cr_sum hc pins s σ H _ us Q I r ⟨p, ns, rfl, SqL.of hp, scalar_fin q w rfl⟩
  · cases h
theorem bAll_ok (hc : X.calm = true) : CallC X (.builtin "all") bAll := by
  rintro ds res h pins s σ H xs us Q I r ⟨g, S, w, c, q⟩
  unfold bAll at h
  split at h
  · obtain ⟨ns, hn, rfl⟩ := Option.map_eq_some_iff.mp h
    obtain ⟨v, rfl, p, vs, rfl, hp, rr⟩ := c1 c
    rw [blsD_v hn rr] at hp
    exact cr_all hc pins s σ H _ us Q I r ⟨p, ns, rfl, SqL.of hp, scalar_fin q w rfl⟩
  · cases h
theorem bAny_ok (hc : X.calm = true) : CallC X (.builtin "any") bAny := by
  rintro ds res h pins s σ H xs us Q I r ⟨g, S, w, c, q⟩
  unfold bAny at h
  split at h
  · obtain ⟨ns, hn, rfl⟩ := Option.map_eq_some_iff.mp h
    obtain ⟨v, rfl, p, vs, rfl, hp, rr⟩ := c1 c
    rw [blsD_v hn rr] at hp
    exact cr_any hc pins s σ H _ us Q I r ⟨p, ns, rfl, SqL.of hp, scalar_fin q w rfl⟩
  · cases h
theorem bTuple_ok : CallC X (.type "tuple") bTuple := by
  rintro ds res h pins s σ H xs us Q I r ⟨g, S, w, c, q⟩
  unfold bTuple at h
  split at h
  · cases h
    obtain ⟨v, rfl, p, vs, rfl, hp, rr⟩ := c1 c
    exact call_tuple_of pins s σ H _ us Q I r ⟨p, vs, rfl, .inl ⟨SqL.of hp, fun l hl => tup_fin q w rr hl⟩⟩
  · cases h
    obtain ⟨v, rfl, p, vs, rfl, hp, rr⟩ := c1 c
    exact call_tuple_of pins s σ H _ us Q I r ⟨p, vs, rfl, .inr ⟨hp.sq, scalar_fin q w ⟨p, vs, rfl, hp, rr⟩⟩⟩
  · cases h
    obtain ⟨v, rfl, p, rfl, hp⟩ := c1 c
    exact call_tuple_of pins s σ H _ us Q I r ⟨p, _, rfl, .inl ⟨hp.sq, fun l hl => tup_fin q w (RepL.ints _) hl⟩⟩
  · cases h
theorem fList_ok : CallF X (.type "list") fList := by
  rintro ds res h pins s σ H xs us Q I r ⟨g, S, w, c, q⟩
  unfold fList at h
  split at h
  · cases h
    obtain ⟨v, rfl, p, vs, rfl, hp, rr⟩ := c1 c
    exact call_list_of pins s σ H _ us Q I r ⟨p, vs, rfl, .inl (SqL.of hp), fun l hl => q l vs hl rr⟩
  · cases h
    obtain ⟨v, rfl, p, vs, rfl, hp, rr⟩ := c1 c
    exact call_list_of pins s σ H _ us Q I r ⟨p, vs, rfl, .inr hp.sq, fun l hl => q l vs hl rr⟩
  · cases h
    obtain ⟨v, rfl, p, rfl, hp⟩ := c1 c
    exact call_list_of pins s σ H _ us Q I r ⟨p, _, rfl, .inl hp.sq, fun l hl => q l _ hl (RepL.ints _)⟩
  · cases h
end

/-! ### isinstance by built-in classes -/
def tyIn (names : List String) (t : String) : Bool := names.contains t
/-- whether a value is of the built-in class t -/
def isTy (d : D) (t : String) : Option Bool :=
  if t = "str" ∨ t = "int" ∨ t = "bool" ∨ t = "tuple" ∨ t = "list" ∨ t = "dict" then
    match d with
    | .non => some false
    | .bl _ => some (t == "bool" || t == "int")
    | .int _ => some (t == "int")
    | .str _ => some (t == "str")
    | .tup _ => some (t == "tuple")
    | .lst _ => some (t == "list")
    | _ => none
  else none
def clsName : D → String
  | .non => "NoneType"
  | .bl _ => "bool"
  | .int _ => "int"
  | .str _ => "str"
  | .tup _ => "tuple"
  | _ => "list"
theorem isTy_kit {K : PySem.W.Frag} {d : D} {t : String} {b : Bool} (h : isTy d t = some b) : PySem.W.kitOne K (.type (clsName d)) (.type t) = some b := by
  apply kit_ty
  unfold isTy at h
  split at h
  · rename_i ht
    rcases ht with rfl | rfl | rfl | rfl | rfl | rfl <;> (cases d <;> first
      | (cases h; done)
      | (cases h; dsimp only [clsName]; decide +kernel))
  · cases h
theorem tyX_of {k : Kx} {H : Hp} {g : G} {d : D} {v : V} {t : String} {b : Bool} (h : isTy d t = some b) (c : CRep k H g d v) : TyX k.K H v (.type (clsName d)) := by
  cases d with
  | non => cases c; exact .base .non
  | bl x => cases c; exact .base (.bl x)
  | int i => cases c; exact .base (.int i)
  | str x => cases c; exact .base (.str _)
  | tup ds =>
    obtain ⟨a, vs, rfl, hs, _⟩ := c
    rcases hs with hs | ⟨⟨o, its, n, hk, hc, _⟩, _⟩
    · exact .base (.tup hs)
    · exact .kTuple hk hc
  | lst ds =>
    obtain ⟨a, vs, rfl, hs, _⟩ := c
    exact .base (.lst hs)
  | _ => unfold isTy at h; split at h <;> cases h
def isTyA (d : D) : List D → Option Bool
  | [] => some false
  | .ty t :: ts => match isTy d t, isTyA d ts with
    | some b, some r => some (b || r)
    | _, _ => none
  | _ :: _ => none
def bIsI : List D → Option D
  | [d, .ty t] => (isTy d t).map .bl
  | [d, .tup ts] => if ts = [] then none else (isTyA d ts).map .bl
  | _ => none
theorem tys_of {k : Kx} {H : Hp} {g : G} {d : D} : ∀ {ts : List D} {vs : List V} {b : Bool}, isTyA d ts = some b → RepL k H g ts vs → ∃ us, Paired ClsV vs us ∧ PySem.W.kitAny k.K (.type (clsName d)) us = some b
  | [], _, b, h, r => by
    cases h
    cases (show _ = [] from r)
    exact ⟨[], .nil, rfl⟩
  | .ty t :: ts, _, b, h, ⟨v, u, h1, h2, h3⟩ => by
    simp only [isTyA] at h
    split at h
    · rename_i b1 b2 e1 e2
      cases h
      obtain ⟨us, p, q⟩ := tys_of e2 h3
      cases h2
      subst h1
      refine ⟨_, .cons (.ty t) p, kitAny_cons (isTy_kit e1) (fun e => ?_) (fun e => ?_)⟩
      · rw [e]; exact q
      · rw [e]; rfl
    · cases h
  | .non :: _, _, _, h, _ => by cases h
  | .bl _ :: _, _, _, h, _ => by cases h
  | .int _ :: _, _, _, h, _ => by cases h
  | .str _ :: _, _, _, h, _ => by cases h
  | .tup _ :: _, _, _, h, _ => by cases h
  | .lst _ :: _, _, _, h, _ => by cases h
  | .obj _ :: _, _, _, h, _ => by cases h
  | .gl _ :: _, _, _, h, _ => by cases h
  | .scr _ :: _, _, _, h, _ => by cases h
section
variable {X : Cx}
theorem bIsI_ok : CallC X (.builtin "isinstance") bIsI := by
  rintro ds res h pins s σ H xs us Q I r ⟨g, S, w, c, q⟩
  unfold bIsI at h
  split at h
  · obtain ⟨b, hb, rfl⟩ := Option.map_eq_some_iff.mp h
    obtain ⟨v, u, rfl, cv, cv'⟩ := c2 c
    cases cv'
    exact call_isi pins s σ H _ us Q I r ⟨v, _, _, _, b, rfl, .ty _, tyX_of hb cv, isTy_kit hb, scalar_fin q w rfl⟩
  · rename_i d ts
    split at h
    · cases h
    · rename_i hne
      obtain ⟨b, hb, rfl⟩ := Option.map_eq_some_iff.mp h
      obtain ⟨v, u, rfl, cv, p, vs, rfl, hs, rr⟩ := c2 c
      obtain ⟨us', hp, hk⟩ := tys_of hb rr
      have ht : TyX X.K H v (.type (clsName d)) := by
        cases ts with
        | nil => exact absurd rfl hne
        | cons t ts =>
          cases t with
          | ty n =>
            simp only [isTyA] at hb
            split at hb
            · rename_i e1 e2; exact tyX_of e1 cv
            · cases hb
          | _ => cases hb
      rcases hs with hs | ⟨⟨⟨oc, od, dt, osl⟩, its, n, hk', hc, hd, hz, hv⟩, _⟩
      · exact call_isiT pins s σ H _ us Q I r ⟨v, p, vs, _, us', b, rfl, hs, hp, ht, hk, scalar_fin q w rfl⟩
      · have hc' : oc = .type "tuple" := hc
        have hd' : dt = .seq its n := hd
        subst hc' hd'
        have e := ClsV.all hp hv
        subst e
        exact call_isiK pins s σ H _ us Q I r ⟨v, p, od, its.toList, n, osl, _, b, rfl, hk', ht, hk, scalar_fin q w rfl⟩
  · cases h
end
end Rf

set_option Elab.async false
set_option linter.all false
set_option maxRecDepth 100000
/-! Rf, part 6: methods of texts and ints; calls of defs. -/
namespace Rf
open PySem L2 TL

def strsD : List D → Option (List (List Nat))
  | [] => some []
  | .str x :: ds => (strsD ds).map (x :: ·)
  | _ :: _ => none
theorem strsD_v {k : Kx} {H : Hp} {g : G} : ∀ {ds : List D} {vs : List V} {ys : List (List Nat)}, strsD ds = some ys → RepL k H g ds vs → vs = (ys.map fun y => (⟨y.toArray⟩ : Str)).map V.str
  | [], _, _, h, r => by cases h; exact r
  | .str i :: ds, _, ns, h, ⟨v, u, h1, h2, h3⟩ => by
    simp only [strsD, Option.map_eq_some_iff] at h
    obtain ⟨ms, hm, rfl⟩ := h
    cases h2
    rw [h1, strsD_v hm h3] <;> rfl
  | .non :: _, _, _, h, _ => by cases h
  | .int _ :: _, _, _, h, _ => by cases h
  | .bl _ :: _, _, _, h, _ => by cases h
  | .tup _ :: _, _, _, h, _ => by cases h
  | .lst _ :: _, _, _, h, _ => by cases h
  | .obj _ :: _, _, _, h, _ => by cases h
  | .gl _ :: _, _, _, h, _ => by cases h
  | .ty _ :: _, _, _, h, _ => by cases h
  | .scr _ :: _, _, _, h, _ => by cases h
/-- sep.join(parts) -/
def jn (a : List Nat) (ys : List (List Nat)) : Option D := if (ys.map (·.length)).sum + ys.length * a.length ≤ 16777216 then some (.str (joinL a ys)) else none
def oJoin (a : List Nat) : D → Option D
  | .lst ds => (strsD ds).bind (jn a)
  | .tup ds => (strsD ds).bind (jn a)
  | _ => none
def eM1 (o : List Nat → D → Option D) (mo me : EM) : EM := fun L S => (mo L S).bind fun d S1 => match d with
  | .str a => (me L S1).bind fun d2 S2 => lift (o a (deref S2 d2)) S2
  | _ => .no
def eM0 (o : D → Option D) (mo : EM) : EM := fun L S => (mo L S).bind fun d S1 => lift (o d) S1
theorem map_len (ys : List (List Nat)) : (ys.map fun y => (⟨y.toArray⟩ : Str)).map (·.length) = ys.map (·.length) := by
  induction ys with
  | nil => rfl
  | cons y ys ih => rw [List.map_cons, List.map_cons, List.map_cons, ih, mk_len]
theorem map_tl (ys : List (List Nat)) : (ys.map fun y => (⟨y.toArray⟩ : Str)).map tl = ys := by
  induction ys with
  | nil => rfl
  | cons y ys ih => rw [List.map_cons, List.map_cons, ih]
theorem join_mk (a : List Nat) (ys : List (List Nat)) : Txt.join ⟨a.toArray⟩ (ys.map fun y => (⟨y.toArray⟩ : Str)) = ⟨(joinL a ys).toArray⟩ := by
  rw [join_eq, ← mk_tl (Str.join _ _), tl_join, map_tl] <;> rfl
section
variable {X : Cx} {W : WX} {o e : Expr} {mo me : EM} {apos pos : Pos}
theorem se_join (ho : SE X W o mo) (he : SP X W e me) (hs : noStar e = true) (hsup : notSuper o = true) (hl : (apos.endLine == pos.line) = true) : SE X W (.Call (.Attribute o "join" apos) [e] [] pos) (eM1 oJoin mo me) :=
  PE.imp (pe_join ho he (star_cons hs) (not_super hsup) hl) fun σ H Q ⟨L, S, g, l, w, p⟩ => ⟨L, S, g, l, w, Post.bind p fun d S1 v H1 g1 e1 w1 r1 p1 => by
    cases d with
    | str a =>
      cases r1
      refine ⟨⟨_, rfl⟩, L, S1, g1, l.ext e1, w1, Post.bind p1 fun d2 S2 v2 H2 g2 e2 w2 r2 p2 => ?_⟩
      have c := r2.c ((l.ext e1).ext e2) w2
      have key : ∀ (q : Addr) (ys : List (List Nat)), (SqL X.K H2 q ((ys.map fun y => (⟨y.toArray⟩ : Str)).map V.str) ∨ SqT X.K H2 q ((ys.map fun y => (⟨y.toArray⟩ : Str)).map V.str)) → v2 = .ref q →
          Post (kx X) (Rep (kx X)) H2 g2 (fun c d => W c d σ) (lift (jn a ys) S2) Q →
          ∃ a' p, ∃ ys' : List Str, V.str ⟨a.toArray⟩ = .str a' ∧ [v2] = [.ref p] ∧ (SqL X.K H2 p (ys'.map V.str) ∨ SqT X.K H2 p (ys'.map V.str)) ∧ (ys'.map (·.length)).sum + ys'.length * a'.length ≤ 16777216 ∧ Q (.str (Txt.join a' ys')) H2 := by
        intro q ys hq hv hp
        subst hv
        unfold jn at hp
        by_cases hz : (ys.map (·.length)).sum + ys.length * a.length ≤ 16777216
        · rw [if_pos hz] at hp
          exact ⟨_, q, _, rfl, rfl, hq, by rw [map_len, List.length_map, mk_len]; exact hz, by rw [join_mk]; exact Post.ret hp w2 rfl⟩
        · rw [if_neg hz] at hp
          exact hp.elim
      cases q2 : deref S2 d2 with
      | lst ds =>
        rw [q2] at p2 c
        obtain ⟨q, vs, hv, hq, rr⟩ := c
        have p3 : Post (kx X) (Rep (kx X)) H2 g2 (fun c d => W c d σ) (lift ((strsD ds).bind (jn a)) S2) Q := p2
        cases hs : strsD ds with
        | none => rw [hs] at p3; exact p3.elim
        | some ys =>
          rw [hs] at p3
          rw [strsD_v hs rr] at hq
          exact key q ys (.inl (SqL.of hq)) hv p3
      | tup ds =>
        rw [q2] at p2 c
        obtain ⟨q, vs, hv, hq, rr⟩ := c
        have p3 : Post (kx X) (Rep (kx X)) H2 g2 (fun c d => W c d σ) (lift ((strsD ds).bind (jn a)) S2) Q := p2
        cases hs : strsD ds with
        | none => rw [hs] at p3; exact p3.elim
        | some ys =>
          rw [hs] at p3
          rw [strsD_v hs rr] at hq
          exact key q ys (.inr hq.sq) hv p3
      | _ => rw [q2] at p2; exact p2.elim
    | _ => exact p1.elim⟩
def up1L (c : Nat) : Nat := PyProof.Rows.up1 c
def oUpper : D → Option D
  | .str a => if a.all (· < 128) ∧ a.length ≤ 5592405 then some (.str (a.map up1L)) else none
  | _ => none
theorem se_upper (ho : SE X W o mo) (hsup : notSuper o = true) (hl : (apos.endLine == pos.line) = true) : SE X W (.Call (.Attribute o "upper" apos) [] [] pos) (eM0 oUpper mo) :=
  PE.imp (pe_upper ho (not_super hsup) hl) fun σ H Q ⟨L, S, g, l, w, p⟩ => ⟨L, S, g, l, w, Post.bind p fun d S1 v H1 g1 e1 w1 r1 p1 => by
    cases d with
    | str a =>
      cases r1
      have p2 : Post (kx X) (Rep (kx X)) H1 g1 (fun c d => W c d σ) (lift (if a.all (· < 128) ∧ a.length ≤ 5592405 then some (D.str (a.map up1L)) else none) S1) Q := p1
      by_cases hz : a.all (· < 128) ∧ a.length ≤ 5592405
      · rw [if_pos hz] at p2
        have e : Txt.upper ⟨a.toArray⟩ = ⟨(a.map up1L).toArray⟩ := by
          rw [PyProof.Rows.upper_ascii (x := ⟨a.toArray⟩) (fun c hc => by
            have := List.all_eq_true.mp hz.1 c (by simpa using hc)
            simpa using this)]
          simp [up1L]
        exact ⟨⟨_, rfl⟩, _, rfl, rfl, by rw [mk_len]; exact hz.2, by rw [e]; exact Post.ret p2 w1 rfl⟩
      · rw [if_neg hz] at p2
        exact p2.elim
    | _ => exact p1.elim⟩
def oBits : D → Option D
  | .int i => some (.int (Builtin.Int.intBits i : Nat))
  | _ => none
theorem se_bits (ho : SE X W o mo) (hsup : notSuper o = true) (hl : (apos.endLine == pos.line) = true) : SE X W (.Call (.Attribute o "bit_length" apos) [] [] pos) (eM0 oBits mo) :=
  PE.imp (pe_bits ho (not_super hsup) hl) fun σ H Q ⟨L, S, g, l, w, p⟩ => ⟨L, S, g, l, w, Post.bind p fun d S1 v H1 g1 e1 w1 r1 p1 => by
    cases d with
    | int i => cases r1; exact ⟨i, rfl, Post.ret p1 w1 rfl⟩
    | _ => exact p1.elim⟩
end

/-! ### calls of defs -/
abbrev Fn := List D → Sto → R D
/-- the promise of a def that does c -/
def spC (k : Kx) (c : Fn) : Sp := fun vs H Q E => ∃ ds S g, RepL k H g ds vs ∧ WF k H g S ∧ Post k (Rep k) H g E (c ds S) Q
theorem spC.kc {k k' : Kx} {c : Fn} {vs : List V} {H : Hp} {Q : VK} {E : XK} (h1 : k'.K = k.K) (h2 : k'.mg = k.mg) (h : spC k c vs H Q E) : spC k' c vs H Q E := by
  obtain ⟨ds, S, g, r, w, p⟩ := h
  exact ⟨ds, S, g, RepL.kc h1 h2 _ _ r, w.kc h1 h2, p.kc h1 h2⟩
/-- the name x stands for a def that does c -/
def FnAt (X : Cx) (x : Str) (c : Fn) : Prop := ∃ (j : Nat) (f : Addr) (fd : FuncData) (ps : List Str), FnOk X.prog X.w X.K X.mg X.base (L2.CX X.prog X.w) j f fd ps (spC (k0 X.K X.mg) c) ∧ Room j X.A ∧
  X.mg x = some (.ref f) ∧ PySem.W.keepIn X.K (.ref f) = true ∧ Binds X.K fd ps []
def eFn (c : Fn) (ma : Ls → Sto → R (List D)) : EM := fun L S => (ma L S).bind c
section
variable {X : Cx} {W : WX} {e : Expr} {es : List Expr} {x : Str} {p pos : Pos} {c : Fn} {ma : Ls → Sto → R (List D)}
theorem se_call (F : FnAt X x c) (hg : Gl X x) (tk : Takes X W) (ha : SAE X W (e :: es) ma) (hs : (e :: es).all noStar = true) (hdb : (x == ("__debug__" : Str)) = false) : SE X W (.Call (.Name x p) (e :: es) [] pos) (eFn c ma) := by
  obtain ⟨j, f, fd, ps, F, hr, hm, hk, hb⟩ := F
  have hs' : noStar e = true ∧ es.all noStar = true := by rwa [List.all_cons, Bool.and_eq_true] at hs
  exact PE.imp (pe_callS F hr hg hm hk hb (fun σ => passAt tk σ) ha hdb (star_cons hs'.1) (star_any hs'.2)) fun σ H Q ⟨L, S, g, l, w, p⟩ => ⟨L, S, g, l, w, Post.bind p fun ds S1 vs H1 g1 e1 w1 r1 p1 => spC.kc (k := kx X) rfl rfl ⟨ds, S1, g1, r1, w1, p1⟩⟩
theorem se_call0 (F : FnAt X x c) (hg : Gl X x) (tk : Takes X W) (hdb : (x == ("__debug__" : Str)) = false) : SE X W (.Call (.Name x p) [] [] pos) (eFn c aNil) := by
  obtain ⟨j, f, fd, ps, F, hr, hm, hk, hb⟩ := F
  refine ⟨fun pins s σ H Q I ⟨L, S, g, l, w, p⟩ => ?_⟩
  refine wpAny_Call_Name_kw (ld_glob I hg hm ?_ hdb)
  exact PySem.W.callWith_K0 I.kIn hk (run_fnS (us := []) F hr hb (passAt tk σ) I .nil (spC.kc (k := kx X) rfl rfl ⟨[], S, g, rfl, w, p⟩))
end
end Rf

set_option Elab.async false
set_option linter.all false
set_option maxRecDepth 100000
/-! Rf, part 7: what is walked. -/
namespace Rf
open PySem L2 TL

/-! ### enumerate over a tuple -/
section
open PySem.Spec PyProof.Rows
theorem en_new (v : Value) (o : Obj) (Hh : Heap → Prop) (B : Begins v o Hh) :
    Meets (Builtin.«enumerate.__new__» ⟨[.type "enumerate", v], []⟩) fun _ R s => Hh s.heap ∧ R (.ok (.ret (.ref (s.heap.push o).objs.size)))
      { s with heap := (s.heap.push o).push { cls := .type "enumerate", data := .fields #[.none, .bool false, .ref s.heap.objs.size, rawInt 0, .none, .none] } } :=
  Meets.of_wp fun prog w A R s h => by
    obtain ⟨hp, gs, dr, tk, os⟩ := s
    obtain ⟨h1, h2⟩ := h
    have sube := sub_enumerate
    have go : ∀ {A' : Around} {E Q : Value → Shared → Prop}, Q (.ref hp.objs.size) ⟨hp.push o, gs, dr, tk, os⟩ → wpAny (model prog w) A' (pyIter v) Q E ⟨hp, gs, dr, tk, os⟩ := fun q => B.iter prog w _ _ _ _ h1 q
    wp_walk using go
    refine wpAny_stack_any fun st => wpAny_pure ?_
    split
    · rename_i c _ _ _ _ _
      cases (c == Value.type "enumerate") <;> (wp_walk using go; exact ⟨_, rfl, h2⟩)
    · wp_walk using go
      exact ⟨_, rfl, h2⟩
theorem en_call {prog : Program} {w : World} {A : Around} {E : Value → Shared → Prop} {s : Shared} {v : Value} {o : Obj} {Hh : Heap → Prop} {Q : Value → Shared → Prop} (B : Begins v o Hh) (h1 : Hh s.heap)
    (h : ∀ h', IsEnum h' (s.heap.objs.size + 1) s.heap.objs.size 0 .none → h'.get? s.heap.objs.size = some o → (∀ b o', s.heap.get? b = some o' → h'.get? b = some o') → Q (.ref (s.heap.objs.size + 1)) { s with heap := h' }) :
    wpAny (model prog w) A (call (.type "enumerate") [v]) Q E s := by
  refine callType_new F.called_enumerate (by decide) (F.typeCall_enumerate_1 _) (F.newCall_enumerate_1 _) (fun obj => F.args_object_init_2 obj _) F.entry_enumerate_new (en_new v o Hh B) ⟨h1, ?_⟩
  have hz : (s.heap.push o).objs.size = s.heap.objs.size + 1 := Heap.size_push ..
  show _ ∧ _
  rw [hz]
  have he : IsEnum ((s.heap.push o).push { cls := .type "enumerate", data := .fields #[.none, .bool false, .ref s.heap.objs.size, rawInt 0, .none, .none] }) (s.heap.objs.size + 1) s.heap.objs.size 0 .none := by
    have q := Heap.get?_push_size (s.heap.push o) (o := { cls := .type "enumerate", data := .fields #[.none, .bool false, .ref s.heap.objs.size, rawInt 0, .none, .none] }) rfl
    rwa [hz] at q
  exact ⟨⟨_, he, rfl⟩, h _ he (Heap.get?_push_of_some _ (Heap.get?_push_size _ B.free)) fun b o' x => Heap.get?_push_of_some _ (Heap.get?_push_of_some _ x)⟩
def IteT (K : PySem.W.Frag) (a : Addr) : It :=
  ⟨fun i H => ∃ (xs : List V) (x : V), SqT K H a xs ∧ xs[i]? = some x, fun i H v H' => ∃ T x, v = .ref T ∧ H T = none ∧ H' = upd H T (.tup [.int (i : Nat), x]) ∧ ∀ xs, SqT K H a xs → xs[i]? = some x, fun i H => ∃ xs : List V, SqT K H a xs ∧ xs.length = i⟩
theorem turn_enumT {P : Program} {w : World} {K : PySem.W.Frag} {elts : List Expr} {kk : Nat} {tpos : Pos} (a e it : Addr) :
    Turn P w K (.Tuple elts kk tpos) (IteT K a) [e, it] e (fun i h => (∃ old, IsEnum h e it ((i : Nat) : Int) old) ∧ h.IsTupleIter it a i ∧ e ≠ it ∧ a ≠ it ∧ a ≠ e) where
  mem := by simp
  obj := fun i h st b hb => by
    obtain ⟨⟨old, he⟩, ⟨o, ho, hc, hd⟩, _⟩ := st
    rcases (show b = e ∨ b = it by simpa using hb) with rfl | rfl
    · exact ⟨_, he, fun v q => nomatch q⟩
    · exact ⟨o, ho, fun v q => by rw [hd] at q; cases q⟩
  keep := fun i h h' st k => let ⟨⟨old, he⟩, hi, hne⟩ := st; ⟨⟨old, k e (by simp) _ he⟩, hi.at fun o q => k it (by simp) o q, hne⟩
  item := by
    intro X hP hw hK hc i pins s σ H E I hf st hg
    subst hP hw hK
    obtain ⟨⟨old, he⟩, hit, hne, hai, hae⟩ := st
    obtain ⟨xs, x, hq, hx⟩ := hg
    obtain ⟨its, rv, p, hz⟩ := I.tuple hq
    obtain ⟨u, hu, ru⟩ := rv.get hx
    have hel : e < s.heap.objs.size := Heap.lt_size he
    have hil : it < s.heap.objs.size := by obtain ⟨_, q, _⟩ := hit; exact Heap.lt_size q
    have hlt : i < its.toArray.size := by
      have := (List.getElem?_eq_some_iff.mp hu).1
      simpa using this
    have D := Draws.tuple (prog := X.prog) (w := X.w) (A := X.A.in1) (I.ok.hd hc) it a hai its.toArray
    refine wpAny_pyNext_enum_itemD D he ⟨hit, show s.heap.IsTuple a its.toArray from p⟩ hlt hne (by simp [hne, Ne.symm hae]) fun y h' tk hP ho hst' hT hsz hk => ?_
    have hy : y = u := by
      have hP' : its.toArray[i]? = some y := hP
      have : its[i]? = some y := by simpa using hP'
      rw [hu] at this
      exact (Option.some.inj this).symm
    subst hy
    refine ⟨_, rfl, wpAny_letOwnedTupleGo_enum (s := { s with heap := h', toks := tk + 1 }) ho fun h'' he' sb => ?_⟩
    have hT2 : h''.get? s.heap.objs.size = some { cls := .type "tuple", data := .seq #[.int i tk, y] } := (sb.2 _ (Nat.ne_of_gt hel)).trans hT
    have new : ObjOk X.prog X.w (upd H s.heap.objs.size (.tup [.int (i : Nat), x])) h'' s.heap.objs.size (.tup [.int (i : Nat), x]) :=
      ⟨by show 2 ≤ sizeLine; decide, [.int i tk, y], .cons ⟨_, rfl⟩ (.cons ru .nil), ⟨_, hT2, rfl, _, rfl⟩⟩
    have I1 : Inv X pins σ (upd H s.heap.objs.size (.tup [.int (i : Nat), x])) { s with heap := h'', toks := tk + 1 } :=
      I.turnedNew (ch := [e, it]) (fun b ob hb q => (sb.2 b (fun z => hb (by simp [z]))).trans (hk b ob (fun z => hb (by simp [z])) (fun z => hb (by simp [z])) q)) hf (Nat.le_refl _) new
    refine ⟨.ref s.heap.objs.size, _, I1, rfl, ⟨_, x, rfl, I.hok.fresh (Nat.le_refl _), rfl, fun ys hy => by rw [I.tuple_inj hy hq]; exact hx⟩, ⟨⟨y, ?_⟩, hst'.1.at fun o q => (sb.2 it (Ne.symm hne)).trans q, hne, hai, hae⟩, fun b hb => ?_⟩
    · rw [show ((i + 1 : Nat) : Int) = (i : Int) + 1 by omega]; exact he'
    · have hb' : b < s.heap.objs.size := by
        rcases (show b = e ∨ b = it by simpa using hb) with z | z
        · rw [z]; exact hel
        · rw [z]; exact hil
      rw [upd_ne (Nat.ne_of_lt hb')]
      exact (hf b hb).1
  done := by
    intro X hP hw hK hc i pins s σ H E I hf st hg
    subst hP hw hK
    obtain ⟨⟨old, he⟩, hit, hne, hai, hae⟩ := st
    obtain ⟨xs, hq, hx⟩ := hg
    obtain ⟨its, rv, p, hz⟩ := I.tuple hq
    obtain ⟨f0, f1, f2, f3, f4, f5⟩ := hf it (by simp)
    have hl := rv.length
    have en : i = its.toArray.size := by rw [List.size_toArray, ← hl, hx]
    subst en
    have D := Draws.tuple (prog := X.prog) (w := X.w) (A := X.A.in1) (I.ok.hd hc) it a hai its.toArray
    exact wpAny_pyNext_enum_endD D he ⟨hit, show s.heap.IsTuple a its.toArray from p⟩ fun h' eb => ⟨rfl, I.turned (t' := s.toks) (fun b o hb q => eb b o hb q) f0 f1 f3 f4 f5⟩
  self := fun A i s Q E st h => let ⟨⟨_, he⟩, _⟩ := st; wpAny_pyIter_enum he h
def iEnT (K : PySem.W.Frag) (ta : TA) : TI := fun σ H R => ta σ H fun vs H1 => ∃ a xs, vs = [.ref a] ∧ ((SqL K H1 a xs ∧ R (Ite K a) H1) ∨ (SqT K H1 a xs ∧ R (IteT K a) H1))
theorem pi_enT {X : Cx} {e : Expr} {ta : TA} {p pos tpos : Pos} {elts : List Expr} {kk : Nat} (hg : Gl X "enumerate") (hm : X.mg "enumerate" = none) (ha : PA X [e] ta) (hs : starEach [e] X.env = [(false, eval e X.env)]) :
    PI X (.Tuple elts kk tpos) (.Call (.Name "enumerate" p) [e] [] pos) (iEnT X.K ta) := by
  refine ⟨fun pins s σ H R I h => ?_⟩
  refine Call_ (ld_blt I hg hm boot_enumerate (PyProof.Rows.callWith_type1 (thn (ha.run pos pins s σ H _ I h) fun us s1 ⟨vs, H1, I1, r1, q1⟩ => ?_) hs rfl))
  obtain ⟨a, xs, ex, q1⟩ := q1
  subst ex
  obtain ⟨u, rfl, hu⟩ := vals1 r1
  cases hu
  have fr : ∀ b ∈ [s1.heap.objs.size + 1, s1.heap.objs.size], FpOk X pins H1 b := fun b hb => by
    have hle : s1.heap.objs.size ≤ b := by
      rcases (show b = s1.heap.objs.size + 1 ∨ b = s1.heap.objs.size by simpa using hb) with rfl | rfl
      · exact Nat.le_succ _
      · exact Nat.le_refl _
    exact I1.fpOk hle (I1.hok.fresh hle)
  rcases q1 with ⟨hq, q⟩ | ⟨hq, q⟩
  · obtain ⟨its, rv, p', hz⟩ := I1.list hq
    refine call_enumerate_list p'.isList fun h' he hit hsz hk => wpAny_pyIter_enum he ?_
    exact ⟨_, _, _, _, H1, rfl, I1.kept (h' := h') (t' := s1.toks) hk, turn_enum a (s1.heap.objs.size + 1) s1.heap.objs.size, ⟨⟨.none, he⟩, hit, Nat.succ_ne_self _⟩, fr, q⟩
  · obtain ⟨its, rv, p', hz⟩ := I1.tuple hq
    refine en_call (begins_tuple a its.toArray) (show s1.heap.IsTuple a its.toArray from p') fun h' he ho hk => wpAny_pyIter_enum he ?_
    have hl := p'.lt
    exact ⟨_, _, _, _, H1, rfl, I1.kept (h' := h') (t' := s1.toks) hk, turn_enumT a (s1.heap.objs.size + 1) s1.heap.objs.size, ⟨⟨.none, he⟩, ⟨_, ho, rfl, rfl⟩, Nat.succ_ne_self _, Nat.ne_of_lt hl, Nat.ne_of_lt (Nat.lt_succ_of_lt hl)⟩, fr, q⟩
end

/-! ### sources: their items, and the store's list that they lean on -/
abbrev Src := List D × Option Nat
def DepOk (S : Sto) (ds : List D) : Option Nat → Prop
  | none => True
  | some n => S[n]? = some (.lst ds)
/-- whatever has gone on by Rl, the walk yields the items -/
def Yields (k : Kx) (Rl : Hp → G → Hp → G → Prop) (J : It) (H : Hp) (g : G) (ds : List D) (dep : Option Nat) : Prop :=
  ∀ H2 g2 S2 i, Rl H g H2 g2 → WF k H2 g2 S2 → DepOk S2 ds dep → (ds.length = i → J.stop i H2) ∧
    ∀ d, ds[i]? = some d → J.go i H2 ∧ ∀ x H3, J.yld i H2 x H3 → Ext H2 g2 H3 g2 ∧ WF k H3 g2 S2 ∧ Rep k H3 g2 d x
/-- a relation that keeps what stands -/
def Rl1 (Rl : Hp → G → Hp → G → Prop) : Prop := ∀ H g H' g', Rl H g H' g' → PExt H g H' g'
section
variable {k : Kx} {Rl : Hp → G → Hp → G → Prop} {H : Hp} {g : G} {S : Sto} {a : Addr} {vs : List V} {ds : List D}
theorem yl_list (hR : Rl1 Rl) (hk : ∀ H2 g2, Rl H g H2 g2 → H2 a = some (.lst vs)) (r : RepL k H g ds vs) : Yields k Rl (Itl k.K a) H g ds none := fun H2 g2 S2 i rl w _ => by
  have h2 : SqL k.K H2 a vs := SqL.of (hk H2 g2 rl)
  refine ⟨fun e => ⟨vs, h2, by rw [r.length, e]; exact Nat.le_refl _⟩, fun d hd => ?_⟩
  obtain ⟨v, hv, rv⟩ := r.get hd
  refine ⟨⟨vs, v, h2, hv⟩, fun x H3 ⟨e, y⟩ => ?_⟩
  subst e
  have := y vs h2
  rw [hv] at this
  cases this
  exact ⟨Ext.refl _ _, w, rv.mono (hR _ _ _ _ rl) _ _⟩
theorem yl_obj {n : Nat} (hR : Rl1 Rl) (hn : n < g.n) : Yields k Rl (Itl k.K (g.ρ n)) H g ds (some n) := fun H2 g2 S2 i rl w dep => by
  obtain ⟨us, h2, r⟩ := w.ob n _ dep
  rw [(hR _ _ _ _ rl).ρ n hn] at h2
  have h3 : SqL k.K H2 (g.ρ n) us := SqL.of h2
  refine ⟨fun e => ⟨us, h3, by rw [r.length, e]; exact Nat.le_refl _⟩, fun d hd => ?_⟩
  obtain ⟨v, hv, rv⟩ := r.get hd
  refine ⟨⟨us, v, h3, hv⟩, fun x H3 ⟨e, y⟩ => ?_⟩
  subst e
  have := y us h3
  rw [hv] at this
  cases this
  exact ⟨Ext.refl _ _, w, rv⟩
theorem yl_scr {ns : List Int} (hR : Rl1 Rl) (h : ScrAt k.K H a (ns.map V.int)) : Yields k Rl (Itl k.K a) H g (ns.map .int) none := fun H2 g2 S2 i rl w _ => by
  have h2 : SqL k.K H2 a (ns.map V.int) := (scrAt_mono (k := k) (hR _ _ _ _ rl) h).sq
  have r : RepL k H g (ns.map .int) (ns.map V.int) := RepL.ints ns
  refine ⟨fun e => ⟨_, h2, by rw [r.length, e]; exact Nat.le_refl _⟩, fun d hd => ?_⟩
  obtain ⟨v, hv, rv⟩ := r.get hd
  refine ⟨⟨_, v, h2, hv⟩, fun x H3 ⟨e, y⟩ => ?_⟩
  subst e
  have := y _ h2
  rw [hv] at this
  cases this
  exact ⟨Ext.refl _ _, w, rv.mono (hR _ _ _ _ rl) _ _⟩
theorem yl_tup (hR : Rl1 Rl) (h : TupAt k.K H a vs) (r : RepL k H g ds vs) : Yields k Rl (Itt k.K a) H g ds none := fun H2 g2 S2 i rl w _ => by
  have h2 : SqT k.K H2 a vs := (tupAt_mono (k := k) (hR _ _ _ _ rl) h).sq
  refine ⟨fun e => ⟨vs, h2, by rw [r.length, e]; exact Nat.le_refl _⟩, fun d hd => ?_⟩
  obtain ⟨v, hv, rv⟩ := r.get hd
  refine ⟨⟨vs, v, h2, hv⟩, fun x H3 ⟨e, y⟩ => ?_⟩
  subst e
  have := y vs h2
  rw [hv] at this
  cases this
  exact ⟨Ext.refl _ _, w, rv.mono (hR _ _ _ _ rl) _ _⟩
def strI (x : List Nat) : List D := x.map fun c => .str [c]
theorem yl_str {x : List Nat} : Yields k Rl (Its ⟨x.toArray⟩) H g (strI x) none := fun H2 g2 S2 i rl w _ => by
  refine ⟨fun e => ?_, fun d hd => ?_⟩
  · show (⟨x.toArray⟩ : Str).cps.size ≤ i
    rw [← e]
    simp [strI]
  · unfold strI at hd
    rw [List.getElem?_map, Option.map_eq_some_iff] at hd
    obtain ⟨c, hc, rfl⟩ := hd
    have hi := (List.getElem?_eq_some_iff.mp hc).1
    refine ⟨by show i < (⟨x.toArray⟩ : Str).cps.size; simpa using hi, fun v H3 ⟨e, c', hc', ev⟩ => ?_⟩
    subst e
    have : x[i]? = some c' := by simpa using hc'
    rw [hc] at this
    cases this
    exact ⟨Ext.refl _ _, w, ev⟩
def rngI (lo : Int) (n : Nat) : List D := (List.range n).map fun (i : Nat) => .int (lo + i)
theorem yl_rng {lo : Int} {n : Nat} : Yields k Rl (Itr lo n) H g (rngI lo n) none := fun H2 g2 S2 i rl w _ => by
  refine ⟨fun e => ?_, fun d hd => ?_⟩
  · show n ≤ i
    rw [← e]
    simp [rngI]
  · unfold rngI at hd
    rw [List.getElem?_map, Option.map_eq_some_iff] at hd
    obtain ⟨c, hc, rfl⟩ := hd
    obtain ⟨hi, ec⟩ := List.getElem?_eq_some_iff.mp hc
    rw [List.length_range] at hi
    rw [List.getElem_range] at ec
    subst ec
    refine ⟨hi, fun v H3 ⟨e, ev⟩ => ?_⟩
    subst e
    exact ⟨Ext.refl _ _, w, ev⟩
def pairI (ds es : List D) : List D := (ds.zip es).map fun p => .tup [p.1, p.2]
def enI (ds : List D) : List D := pairI (rngI 0 ds.length) ds
theorem pair_at {ds es : List D} {i : Nat} {d : D} (h : (pairI ds es)[i]? = some d) : ∃ a b, ds[i]? = some a ∧ es[i]? = some b ∧ d = .tup [a, b] := by
  unfold pairI at h
  rw [List.getElem?_map, Option.map_eq_some_iff] at h
  obtain ⟨⟨a, b⟩, hp, rfl⟩ := h
  rw [List.getElem?_zip_eq_some] at hp
  exact ⟨a, b, hp.1, hp.2, rfl⟩
theorem pair_new {H2 : Hp} {g2 : G} {S2 : Sto} {T : Addr} {a b : D} {x y : V} (w : WF k H2 g2 S2) (hT : H2 T = none) (ra : Rep k H2 g2 a x) (rb : Rep k H2 g2 b y) :
    Ext H2 g2 (upd H2 T (.tup [x, y])) g2 ∧ WF k (upd H2 T (.tup [x, y])) g2 S2 ∧ Rep k (upd H2 T (.tup [x, y])) g2 (.tup [a, b]) (.ref T) :=
  ⟨Ext.new hT, w.new hT, T, [x, y], rfl, .inl upd_same, x, [y], rfl, ra.mono (Ext.new hT).toPExt _ _, y, [], rfl, rb.mono (Ext.new hT).toPExt _ _, rfl⟩
theorem rngI_at {lo : Int} {n i : Nat} {a : D} (h : (rngI lo n)[i]? = some a) : a = .int (lo + i) := by
  unfold rngI at h
  rw [List.getElem?_map, Option.map_eq_some_iff] at h
  obtain ⟨c, hc, rfl⟩ := h
  obtain ⟨hi, ec⟩ := List.getElem?_eq_some_iff.mp hc
  rw [List.getElem_range] at ec
  rw [← ec]
theorem enI_len (ds : List D) : (enI ds).length = ds.length := by simp [enI, pairI, rngI]
theorem pairI_len (ds es : List D) : (pairI ds es).length = min ds.length es.length := by simp [pairI]
theorem yl_enum (hR : Rl1 Rl) (hk : ∀ H2 g2, Rl H g H2 g2 → SqL k.K H2 a vs) (r : RepL k H g ds vs) : Yields k Rl (Ite k.K a) H g (enI ds) none := fun H2 g2 S2 i rl w _ => by
  have h2 := hk H2 g2 rl
  refine ⟨fun e => ⟨vs, h2, by rw [r.length, ← e, enI_len]; exact Nat.le_refl _⟩, fun d hd => ?_⟩
  obtain ⟨p, q, h3, h4, rfl⟩ := pair_at hd
  obtain ⟨v, hv, rv⟩ := r.get h4
  refine ⟨⟨vs, v, h2, hv⟩, fun x H3 ⟨T, y, ex, hT, eH, hy⟩ => ?_⟩
  subst ex eH
  have := hy vs h2
  rw [hv] at this
  cases this
  exact pair_new w hT (by rw [rngI_at h3, Int.zero_add]; rfl) (rv.mono (hR _ _ _ _ rl) _ _)
theorem yl_enumT (hR : Rl1 Rl) (h : TupAt k.K H a vs) (r : RepL k H g ds vs) : Yields k Rl (IteT k.K a) H g (enI ds) none := fun H2 g2 S2 i rl w _ => by
  have h2 : SqT k.K H2 a vs := (tupAt_mono (k := k) (hR _ _ _ _ rl) h).sq
  refine ⟨fun e => ⟨vs, h2, by rw [r.length, ← e, enI_len]⟩, fun d hd => ?_⟩
  obtain ⟨p, q, h3, h4, rfl⟩ := pair_at hd
  obtain ⟨v, hv, rv⟩ := r.get h4
  refine ⟨⟨vs, v, h2, hv⟩, fun x H3 ⟨T, y, ex, hT, eH, hy⟩ => ?_⟩
  subst ex eH
  have := hy vs h2
  rw [hv] at this
  cases this
  exact pair_new w hT (by rw [rngI_at h3, Int.zero_add]; rfl) (rv.mono (hR _ _ _ _ rl) _ _)
theorem yl_zip {b : Addr} {us : List V} {es : List D} (hR : Rl1 Rl) (hk : ∀ H2 g2, Rl H g H2 g2 → SqL k.K H2 a vs) (hk' : ∀ H2 g2, Rl H g H2 g2 → SqL k.K H2 b us) (r : RepL k H g ds vs) (r' : RepL k H g es us) : Yields k Rl (Itz k.K a b) H g (pairI ds es) none := fun H2 g2 S2 i rl w _ => by
  have h2 := hk H2 g2 rl
  have h2' := hk' H2 g2 rl
  refine ⟨fun e => ⟨vs, us, h2, h2', ?_⟩, fun d hd => ?_⟩
  · rw [pairI_len] at e
    rw [r.length, r'.length]
    omega
  obtain ⟨p, q, h3, h4, rfl⟩ := pair_at hd
  obtain ⟨v, hv, rv⟩ := r.get h3
  obtain ⟨u, hu, ru⟩ := r'.get h4
  refine ⟨⟨vs, us, v, u, h2, h2', hv, hu⟩, fun x H3 ⟨T, y, z, ex, hT, eH, hy, hz⟩ => ?_⟩
  subst ex eH
  have e1 := hy vs h2
  have e2 := hz us h2'
  rw [hv] at e1; rw [hu] at e2
  cases e1; cases e2
  exact pair_new w hT (rv.mono (hR _ _ _ _ rl) _ _) (ru.mono (hR _ _ _ _ rl) _ _)
theorem yl_zipT {b : Addr} {us : List V} {es : List D} (hR : Rl1 Rl) (h : TupAt k.K H a vs) (h' : TupAt k.K H b us) (r : RepL k H g ds vs) (r' : RepL k H g es us) : Yields k Rl (RZ.ItzT k.K a b) H g (pairI ds es) none := fun H2 g2 S2 i rl w _ => by
  have h2 : SqT k.K H2 a vs := (tupAt_mono (k := k) (hR _ _ _ _ rl) h).sq
  have h2' : SqT k.K H2 b us := (tupAt_mono (k := k) (hR _ _ _ _ rl) h').sq
  refine ⟨fun e => ⟨vs, us, h2, h2', ?_⟩, fun d hd => ?_⟩
  · rw [pairI_len] at e
    rw [r.length, r'.length]
    omega
  obtain ⟨p, q, h3, h4, rfl⟩ := pair_at hd
  obtain ⟨v, hv, rv⟩ := r.get h3
  obtain ⟨u, hu, ru⟩ := r'.get h4
  refine ⟨⟨vs, us, v, u, h2, h2', hv, hu⟩, fun x H3 ⟨T, y, z, ex, hT, eH, hy, hz⟩ => ?_⟩
  subst ex eH
  have e1 := hy vs h2
  have e2 := hz us h2'
  rw [hv] at e1; rw [hu] at e2
  cases e1; cases e2
  exact pair_new w hT (rv.mono (hR _ _ _ _ rl) _ _) (ru.mono (hR _ _ _ _ rl) _ _)
end
end Rf

set_option Elab.async false
set_option linter.all false
set_option maxRecDepth 100000
/-! Rf, part 8: sources, targets, comprehensions. -/
namespace Rf
open PySem L2 TL

abbrev OpP := L2.St → Ls → Hp → G → D → V → Prop
def tQ (k : Kx) (W : WX) (P : OpP) (m : EM) : TE := fun σ H Q => ∃ L S g, LocRel k σ L H g ∧ WF k H g S ∧ Post k (P σ L) H g (fun c d => W c d σ) (m L S) Q
def PL (P : OpP) (σ : L2.St) (L : Ls) (H : Hp) (g : G) : List D → List V → Prop
  | [], vs => vs = []
  | d :: ds, vs => ∃ v r, vs = v :: r ∧ P σ L H g d v ∧ PL P σ L H g ds r
def tQA (k : Kx) (W : WX) (P : OpP) (m : Ls → Sto → R (List D)) : TA := fun σ H Q => ∃ L S g, LocRel k σ L H g ∧ WF k H g S ∧ Post k (PL P σ L) H g (fun c d => W c d σ) (m L S) Q
/-- a value that may be walked while Rl holds -/
def MdRep (k : Kx) (Rl : Hp → G → Hp → G → Prop) (H : Hp) (g : G) : D → V → Prop
  | .lst ds, v => ∃ a vs, v = .ref a ∧ H a = some (.lst vs) ∧ (∀ H2 g2, Rl H g H2 g2 → H2 a = some (.lst vs)) ∧ RepL k H g ds vs
  | d, v => Rep k H g d v
/-- operands of kind P may be walked under Rl -/
structure Md (k : Kx) (Rl : Hp → G → Hp → G → Prop) (P : OpP) : Prop where
  r1 : Rl1 Rl
  md : ∀ {σ L H g d v}, LocRel k σ L H g → P σ L H g d v → MdRep k Rl H g d v
  pk : ∀ {σ L H g d v}, P σ L H g d v → PkRep k σ L H g d v
def PRep (k : Kx) : OpP := fun _ _ => Rep k
def PPk (k : Kx) : OpP := PkRep k
theorem md_p {k : Kx} : Md k PExt (PRep k) where
  r1 := fun _ _ _ _ h => h
  md := fun {σ L H g d v} _ h => by
    cases d with
    | lst ds => obtain ⟨a, vs, h1, h2, h3, h4⟩ := (show Rep k H g (.lst ds) v from h); exact ⟨a, vs, h1, h3, fun H2 g2 e => e.kF _ _ h2 h3, h4⟩
    | _ => exact h
  pk := fun h => .inl h
theorem md_e {k : Kx} : Md k Ext (PPk k) where
  r1 := fun _ _ _ _ h => h.toPExt
  md := fun {σ L H g d v} l h => by
    rcases (show PkRep k σ L H g d v from h) with h | ⟨i, ds, h1, rfl, h3⟩
    · cases d with
      | lst ds => obtain ⟨a, vs, h1, h2, h3, h4⟩ := h; exact ⟨a, vs, h1, h3, fun H2 g2 e => e.kF _ _ h2 h3, h4⟩
      | _ => exact h
    · obtain ⟨a, q, ⟨vs, e, r⟩, h4, h5⟩ := l.own i _ h1
      rw [h3] at q
      cases q
      exact ⟨a, vs, rfl, e, fun H2 g2 x => x.keep _ _ e h5, r⟩
  pk := fun h => h
theorem PI.or {X : Cx} {tg e : Expr} {w1 w2 : TI} (h1 : PI X tg e w1) (h2 : PI X tg e w2) : PI X tg e (fun σ H R => w1 σ H R ∨ w2 σ H R) := ⟨fun pins s σ H R I h => h.elim (h1.run pins s σ H R I) (h2.run pins s σ H R I)⟩
theorem PI.imp {X : Cx} {tg e : Expr} {t t' : TI} (h : PI X tg e t) (i : ∀ σ H Q, t' σ H Q → t σ H Q) : PI X tg e t' := ⟨fun pins s σ H Q I q => h.run pins s σ H Q I (i σ H Q q)⟩
def tI (k : Kx) (Rl : Hp → G → Hp → G → Prop) (W : WX) (m : Ls → Sto → R Src) : TI := fun σ H Q => ∃ L S g, LocRel k σ L H g ∧ WF k H g S ∧
  Post k (fun H' g' (s : Src) (J : It) => Yields k Rl J H' g' s.1 s.2) H g (fun c d => W c d σ) (m L S) Q
def srcOf (S : Sto) : D → Option Src
  | .lst ds => some (ds, none)
  | .tup ds => some (ds, none)
  | .str x => some (strI x, none)
  | .scr ns => some (ns.map .int, none)
  | .obj n => match S[n]? with
    | some (.lst ds) => some (ds, some n)
    | _ => none
  | _ => none
def iVal (m : EM) : Ls → Sto → R Src := fun L S => (m L S).bind fun d S1 => lift (srcOf S1 d) S1
def rng1 : List D → Option Src
  | [.int j] => if -(2 ^ 62) ≤ j ∧ j < 2 ^ 62 then some (rngI 0 j.toNat, none) else none
  | _ => none
def rng2 : List D → Option Src
  | [.int i, .int j] => if (-(2 ^ 62) ≤ i ∧ i < 2 ^ 62) ∧ -(2 ^ 62) ≤ j ∧ j < 2 ^ 62 then some (rngI i (j - i).toNat, none) else none
  | _ => none
def enOf : List D → Option Src
  | [.lst ds] => some (enI ds, none)
  | [.tup ds] => some (enI ds, none)
  | _ => none
def zipOf : List D → Option Src
  | [.lst ds, .lst es] => some (pairI ds es, none)
  | [.tup ds, .tup es] => some (pairI ds es, none)
  | _ => none
def iArgs (o : List D → Option Src) (ma : Ls → Sto → R (List D)) : Ls → Sto → R Src := fun L S => (ma L S).bind fun ds S1 => lift (o ds) S1
section
variable {X : Cx} {W : WX} {Rl : Hp → G → Hp → G → Prop} {P : OpP} {tg e : Expr} {m : EM}
theorem si_val (M : Md (kx X) Rl P) (h : PE X e (tQ (kx X) W P m)) : PI X tg e (tI (kx X) Rl W (iVal m)) :=
  PI.imp (Rf.PI.or (pi_list h) (Rf.PI.or (pi_tup h) (pi_str h))) fun σ H Q ⟨L, S, g, l, w, p⟩ => by
    unfold iVal at p
    cases q : m L S with
    | no => rw [q] at p; exact p.elim
    | ex x S' => rw [q] at p; exact .inl ⟨L, S, g, l, w, by rw [q]; exact p⟩
    | ok d S1 =>
      rw [q] at p
      have p0 : Post (kx X) (fun H' g' (s : Src) (J : It) => Yields (kx X) Rl J H' g' s.1 s.2) H g (fun c d => W c d σ) (lift (srcOf S1 d) S1) Q := p
      cases z : srcOf S1 d with
      | none => rw [z] at p0; exact p0.elim
      | some src =>
        rw [z] at p0
        have p1 : ∀ J H1 g1, Ext H g H1 g1 → WF (kx X) H1 g1 S1 → Yields (kx X) Rl J H1 g1 src.1 src.2 → Q J H1 := fun J H1 g1 e2 w1 y => p0 J H1 g1 e2 w1 y
        cases d with
        | lst ds =>
          cases z
          refine .inl ⟨L, S, g, l, w, ?_⟩
          rw [q]
          intro v H1 g1 e1 w1 r1
          obtain ⟨a, vs, rfl, h0, h1, h2⟩ := M.md (l.ext e1) r1
          exact ⟨a, rfl, ⟨vs, SqL.of h0⟩, p1 _ _ g1 e1 w1 (yl_list M.r1 h1 h2)⟩
        | tup ds =>
          cases z
          refine .inr (.inl ⟨L, S, g, l, w, ?_⟩)
          rw [q]
          intro v H1 g1 e1 w1 r1
          obtain ⟨a, vs, rfl, h1, h2⟩ := M.md (l.ext e1) r1
          exact ⟨a, rfl, ⟨vs, h1.sq⟩, p1 _ _ g1 e1 w1 (yl_tup M.r1 h1 h2)⟩
        | str x =>
          cases z
          refine .inr (.inr ⟨L, S, g, l, w, ?_⟩)
          rw [q]
          intro v H1 g1 e1 w1 r1
          cases (show v = .str ⟨x.toArray⟩ from M.md (l.ext e1) r1)
          exact ⟨_, rfl, p1 _ _ g1 e1 w1 yl_str⟩
        | scr ns =>
          cases z
          refine .inl ⟨L, S, g, l, w, ?_⟩
          rw [q]
          intro v H1 g1 e1 w1 r1
          obtain ⟨a, rfl, h1⟩ := M.md (l.ext e1) r1
          exact ⟨a, rfl, ⟨_, h1.sq⟩, p1 _ _ g1 e1 w1 (yl_scr M.r1 h1)⟩
        | obj n =>
          refine .inl ⟨L, S, g, l, w, ?_⟩
          rw [q]
          intro v H1 g1 e1 w1 r1
          obtain ⟨hn, rfl⟩ := M.md (l.ext e1) r1
          simp only [srcOf] at z
          split at z
          · rename_i ds hd
            cases z
            obtain ⟨vs, h1, h2⟩ := w1.ob n _ hd
            exact ⟨_, rfl, ⟨vs, SqL.of h1⟩, p1 _ _ g1 e1 w1 (yl_obj M.r1 hn)⟩
          · cases z
        | _ => cases z
variable {a b : Expr} {ma : Ls → Sto → R (List D)} {p pos : Pos}
theorem arg1 {ds : List D} {d : D} {σ : L2.St} {L : Ls} {H : Hp} {g : G} {vs : List V} (h : PL P σ L H g [d] vs) : ∃ v, vs = [v] ∧ P σ L H g d v := by
  obtain ⟨v, r, h1, h2, h3⟩ := h
  cases (show r = [] from h3)
  exact ⟨v, h1, h2⟩
theorem arg2 {d d' : D} {σ : L2.St} {L : Ls} {H : Hp} {g : G} {vs : List V} (h : PL P σ L H g [d, d'] vs) : ∃ v u, vs = [v, u] ∧ P σ L H g d v ∧ P σ L H g d' u := by
  obtain ⟨v, r, h1, h2, h3⟩ := h
  obtain ⟨u, rfl, h4⟩ := arg1 (ds := []) h3
  exact ⟨v, u, h1, h2, h4⟩
theorem pk_int {k : Kx} {σ : L2.St} {L : Ls} {H : Hp} {g : G} {i : Int} {v : V} (h : PkRep k σ L H g (.int i) v) : v = .int i := by
  rcases h with h | ⟨_, _, _, h, _⟩
  · exact h
  · cases h
/-- one more step: from the arguments' items -/
theorem it_fin {k : Kx} {o : List D → Option Src} {σ : L2.St} {H : Hp} {Q : It → Hp → Prop} {R : List V → Hp → Prop} (h : tI k Rl W (iArgs o ma) σ H Q)
    (f : ∀ L ds S1 vs H1 g1 src, LocRel k σ L H1 g1 → WF k H1 g1 S1 → PL P σ L H1 g1 ds vs → o ds = some src → (∀ J, Yields k Rl J H1 g1 src.1 src.2 → Q J H1) → R vs H1) : tQA k W P ma σ H R := by
  obtain ⟨L, S, g, l, w, p⟩ := h
  refine ⟨L, S, g, l, w, Post.bind p fun ds S1 vs H1 g1 e1 w1 r1 p1 => ?_⟩
  cases q : o ds with
  | none => rw [q] at p1; exact p1.elim
  | some src =>
    rw [q] at p1
    exact f L ds S1 vs H1 g1 src (l.ext e1) w1 r1 q fun J y => Post.ret p1 w1 y
theorem si_rng1 (M : Md (kx X) Rl P) (hg : Gl X "range") (hm : X.mg "range" = none) (ha : PA X [a] (tQA (kx X) W P ma)) (hs : noStar a = true) : PI X tg (.Call (.Name "range" p) [a] [] pos) (tI (kx X) Rl W (iArgs rng1 ma)) :=
  PI.imp (pi_range1 hg hm ha (star_cons hs)) fun σ H Q h => it_fin h fun L ds S1 vs H1 g1 src l w r q y => by
    unfold rng1 at q
    split at q
    · split at q
      · rename_i j hz
        cases q
        obtain ⟨v, rfl, hv⟩ := arg1 (ds := []) r
        cases pk_int (M.pk hv)
        exact ⟨j, rfl, hz.1, hz.2, y _ yl_rng⟩
      · cases q
    · cases q
theorem si_rng2 (M : Md (kx X) Rl P) (hg : Gl X "range") (hm : X.mg "range" = none) (ha : PA X [a, b] (tQA (kx X) W P ma)) (hs : noStar a = true) (hs' : noStar b = true) : PI X tg (.Call (.Name "range" p) [a, b] [] pos) (tI (kx X) Rl W (iArgs rng2 ma)) :=
  PI.imp (pi_range2 hg hm ha (by rw [star_cons hs, star_cons hs'] <;> rfl) (star_cons hs')) fun σ H Q h => it_fin h fun L ds S1 vs H1 g1 src l w r q y => by
    unfold rng2 at q
    split at q
    · split at q
      · rename_i i j hz
        cases q
        obtain ⟨v, u, rfl, hv, hu⟩ := arg2 r
        cases pk_int (M.pk hv)
        cases pk_int (M.pk hu)
        exact ⟨i, j, rfl, ⟨hz.1.1, hz.1.2, hz.2.1, hz.2.2⟩, y _ yl_rng⟩
      · cases q
    · cases q
variable {elts : List Expr} {kk : Nat} {tpos : Pos}
theorem si_enum (M : Md (kx X) Rl P) (hg : Gl X "enumerate") (hm : X.mg "enumerate" = none) (ha : PA X [a] (tQA (kx X) W P ma)) (hs : noStar a = true) : PI X (.Tuple elts kk tpos) (.Call (.Name "enumerate" p) [a] [] pos) (tI (kx X) Rl W (iArgs enOf ma)) :=
  PI.imp (pi_enT hg hm ha (star_cons hs)) fun σ H Q h => it_fin h fun L ds S1 vs H1 g1 src l w r q y => by
    unfold enOf at q
    split at q
    · cases q
      obtain ⟨v, rfl, hv⟩ := arg1 (ds := []) r
      obtain ⟨c, vs, rfl, h0, h1, h2⟩ := M.md l hv
      exact ⟨c, vs, rfl, .inl ⟨SqL.of h0, y _ (yl_enum M.r1 (fun H2 g2 e => SqL.of (h1 H2 g2 e)) h2)⟩⟩
    · cases q
      obtain ⟨v, rfl, hv⟩ := arg1 (ds := []) r
      obtain ⟨c, vs, rfl, h1, h2⟩ := M.md l hv
      exact ⟨c, vs, rfl, .inr ⟨h1.sq, y _ (yl_enumT M.r1 h1 h2)⟩⟩
    · cases q
theorem si_zip (M : Md (kx X) Rl P) (hg : Gl X "zip") (hm : X.mg "zip" = none) (ha : PA X [a, b] (tQA (kx X) W P ma)) (hs : noStar a = true) (hs' : noStar b = true) : PI X (.Tuple elts kk tpos) (.Call (.Name "zip" p) [a, b] [] pos) (tI (kx X) Rl W (iArgs zipOf ma)) :=
  PI.imp (RZ.pi_zipA hg hm ha (star_cons hs) (star_any (by rw [List.all_cons, hs'] <;> rfl))) fun σ H Q h => it_fin h fun L ds S1 vs H1 g1 src l w r q y => by
    unfold zipOf at q
    split at q
    · cases q
      obtain ⟨v, u, rfl, hv, hu⟩ := arg2 r
      obtain ⟨c, vs, rfl, h0, h1, h2⟩ := M.md l hv
      obtain ⟨c', vs', rfl, h0', h1', h2'⟩ := M.md l hu
      exact ⟨c, c', vs, vs', rfl, .inl ⟨SqL.of h0, SqL.of h0', y _ (yl_zip M.r1 (fun H2 g2 e => SqL.of (h1 H2 g2 e)) (fun H2 g2 e => SqL.of (h1' H2 g2 e)) h2 h2')⟩⟩
    · cases q
      obtain ⟨v, u, rfl, hv, hu⟩ := arg2 r
      obtain ⟨c, vs, rfl, h1, h2⟩ := M.md l hv
      obtain ⟨c', vs', rfl, h1', h2'⟩ := M.md l hu
      exact ⟨c, c', vs, vs', rfl, .inr ⟨h1.sq, h1'.sq, y _ (yl_zipT M.r1 h1 h1' h2 h2')⟩⟩
    · cases q
end
/-- the two kinds of argument lists as PL's -/
theorem pkl_pl {k : Kx} {σ : L2.St} {L : Ls} {H : Hp} {g : G} : ∀ {ds : List D} {vs : List V}, PL (PPk k) σ L H g ds vs → PkL k σ L H g ds vs
  | [], _, h => h
  | _ :: _, _, ⟨v, r, h1, h2, h3⟩ => ⟨v, r, h1, h2, pkl_pl h3⟩
theorem pl_pkl {k : Kx} {σ : L2.St} {L : Ls} {H : Hp} {g : G} : ∀ {ds : List D} {vs : List V}, PkL k σ L H g ds vs → PL (PPk k) σ L H g ds vs
  | [], _, h => h
  | _ :: _, _, ⟨v, r, h1, h2, h3⟩ => ⟨v, r, h1, h2, pl_pkl h3⟩
theorem pl_rep {k : Kx} {σ : L2.St} {L : Ls} {H : Hp} {g : G} : ∀ {ds : List D} {vs : List V}, RepL k H g ds vs → PL (PRep k) σ L H g ds vs
  | [], _, h => h
  | _ :: _, _, ⟨v, r, h1, h2, h3⟩ => ⟨v, r, h1, h2, pl_rep h3⟩
theorem Post.imp {α β : Type} {k : Kx} {P P' : Hp → G → α → β → Prop} {H : Hp} {g : G} {W : Value → Option Addr → Hp → Prop} {r : R α} {Q : β → Hp → Prop} (h : Post k P H g W r Q) (i : ∀ H' g' a b, P' H' g' a b → P H' g' a b) : Post k P' H g W r Q := by
  cases r with
  | ok a S => exact fun b H' g' e w p => h b H' g' e w (i _ _ _ _ p)
  | ex x S => exact h
  | no => exact h
theorem SA.q {X : Cx} {W : WX} {es : List Expr} {m : Ls → Sto → R (List D)} (h : SA X W es m) : PA X es (tQA (kx X) W (PPk (kx X)) m) := PA.imp h fun σ H Q ⟨L, S, g, l, w, p⟩ => ⟨L, S, g, l, w, Post.imp p fun _ _ _ _ z => pl_pkl z⟩
theorem SAE.q {X : Cx} {W : WX} {es : List Expr} {m : Ls → Sto → R (List D)} (h : SAE X W es m) : PA X es (tQA (kx X) W (PRep (kx X)) m) := PA.imp h fun σ H Q ⟨L, S, g, l, w, p⟩ => ⟨L, S, g, l, w, Post.imp p fun _ _ _ _ z => pl_rep z⟩
end Rf

set_option Elab.async false
set_option linter.all false
set_option maxRecDepth 100000
/-! Rf, part 9: targets, comprehensions. -/
namespace Rf
open PySem L2 TL

/-! ### targets: names and tuples of targets -/
inductive Tg where
  | nm (i : Nat) | tup (ts : List Tg)
mutual
def tgA : Tg → D → Ls → Option Ls
  | .nm i, d, L => some (L.set i (.v d))
  | .tup ts, .tup ds, L => tgAs ts ds L
  | .tup ts, .lst ds, L => tgAs ts ds L
  | .tup _, _, _ => none
def tgAs : List Tg → List D → Ls → Option Ls
  | [], [], L => some L
  | t :: ts, d :: ds, L => match tgA t d L with
    | some L1 => tgAs ts ds L1
    | none => none
  | _, _, _ => none
end
mutual
def Tg.slots : Tg → List Nat
  | .nm i => [i]
  | .tup ts => Tg.slotsL ts
def Tg.slotsL : List Tg → List Nat
  | [] => []
  | t :: ts => t.slots ++ Tg.slotsL ts
end
/-- what a store of ours leaves -/
def Frm (ss : List Nat) (σ σ' : L2.St) : Prop := σ'.length = σ.length ∧ ∀ j, j ∉ ss → σ'[j]? = σ[j]?
theorem Frm.trans {ss ts : List Nat} {a b c : L2.St} (h : Frm ss a b) (h' : Frm ts b c) : Frm (ss ++ ts) a c :=
  ⟨h'.1.trans h.1, fun j hj => (h'.2 j fun z => hj (List.mem_append_right _ z)).trans (h.2 j fun z => hj (List.mem_append_left _ z))⟩
theorem LocRel.set {k : Kx} {σ : L2.St} {L : Ls} {H : Hp} {g : G} {i : Nat} {d : D} {v : V} (l : LocRel k σ L H g) (r : Rep k H g d v) : LocRel k (σ.set i (some v)) (L.set i (.v d)) H g where
  len := by rw [List.length_set, List.length_set, l.len]
  val := fun j e h => by
    by_cases hj : i = j
    · subst hj
      by_cases hl : i < L.length
      · rw [List.getElem?_set_self hl] at h
        cases h
        exact ⟨v, by rw [List.getElem?_set_self (by rw [l.len]; exact hl)], r⟩
      · rw [List.getElem?_eq_none (by rw [List.length_set]; omega)] at h
        cases h
    · rw [List.getElem?_set_ne hj] at h
      obtain ⟨u, h1, h2⟩ := l.val j e h
      exact ⟨u, by rw [List.getElem?_set_ne hj]; exact h1, h2⟩
  own := fun j o h => by
    by_cases hj : i = j
    · subst hj
      by_cases hl : i < L.length
      · rw [List.getElem?_set_self hl] at h
        cases h
      · rw [List.getElem?_eq_none (by rw [List.length_set]; omega)] at h
        cases h
    · rw [List.getElem?_set_ne hj] at h
      obtain ⟨u, h1, h2⟩ := l.own j o h
      exact ⟨u, by rw [List.getElem?_set_ne hj]; exact h1, h2⟩
  sep := fun a b o u p ha hb pa pb => by
    have key : ∀ {a : Nat} {o : O}, (L.set i (.v d))[a]? = some (.o o) → i ≠ a := fun {a o} h z => by
      subst z
      by_cases hl : i < L.length
      · rw [List.getElem?_set_self hl] at h; cases h
      · rw [List.getElem?_eq_none (by rw [List.length_set]; omega)] at h; cases h
    have ia := key ha
    have ib := key hb
    rw [List.getElem?_set_ne ia] at ha pa
    rw [List.getElem?_set_ne ib] at hb pb
    exact l.sep a b o u p ha hb pa pb
  exc := l.exc.set nofun
theorem LocRel.unset {k : Kx} {σ : L2.St} {L : Ls} {H : Hp} {g : G} {i : Nat} (l : LocRel k σ L H g) : LocRel k (σ.set i none) (L.set i .un) H g where
  len := by rw [List.length_set, List.length_set, l.len]
  val := fun j e h => by
    by_cases hj : i = j
    · subst hj
      by_cases hl : i < L.length
      · rw [List.getElem?_set_self hl] at h
        cases h
      · rw [List.getElem?_eq_none (by rw [List.length_set]; omega)] at h
        cases h
    · rw [List.getElem?_set_ne hj] at h
      obtain ⟨u, h1, h2⟩ := l.val j e h
      exact ⟨u, by rw [List.getElem?_set_ne hj]; exact h1, h2⟩
  own := fun j o h => by
    by_cases hj : i = j
    · subst hj
      by_cases hl : i < L.length
      · rw [List.getElem?_set_self hl] at h
        cases h
      · rw [List.getElem?_eq_none (by rw [List.length_set]; omega)] at h
        cases h
    · rw [List.getElem?_set_ne hj] at h
      obtain ⟨u, h1, h2⟩ := l.own j o h
      exact ⟨u, by rw [List.getElem?_set_ne hj]; exact h1, h2⟩
  sep := fun a b o u p ha hb pa pb => by
    have key : ∀ {a : Nat} {o : O}, (L.set i .un)[a]? = some (.o o) → i ≠ a := fun {a o} h z => by
      subst z
      by_cases hl : i < L.length
      · rw [List.getElem?_set_self hl] at h; cases h
      · rw [List.getElem?_eq_none (by rw [List.length_set]; omega)] at h; cases h
    have ia := key ha
    have ib := key hb
    rw [List.getElem?_set_ne ia] at ha pa
    rw [List.getElem?_set_ne ib] at hb pb
    exact l.sep a b o u p ha hb pa pb
  exc := l.exc.set nofun
def wipeL (L : Ls) : List Nat → Ls
  | [] => L
  | v :: vs => (wipeL L vs).set v .un
theorem LocRel.wipe {k : Kx} {σ : L2.St} {L : Ls} {H : Hp} {g : G} (l : LocRel k σ L H g) : ∀ vs, LocRel k (L2.wipe σ vs) (wipeL L vs) H g
  | [] => l
  | _ :: vs => (LocRel.wipe l vs).unset

def tGt (k : Kx) (t : Tg) : TG := fun v σ H Q => ∃ d L S g L', Rep k H g d v ∧ LocRel k σ L H g ∧ WF k H g S ∧ tgA t d L = some L' ∧ ∀ σ', LocRel k σ' L' H g → Frm t.slots σ σ' → Q σ' H
def tGs (k : Kx) (ts : List Tg) : TGs := fun vs σ H Q => ∃ ds L S g L', RepL k H g ds vs ∧ LocRel k σ L H g ∧ WF k H g S ∧ tgAs ts ds L = some L' ∧ ∀ σ', LocRel k σ' L' H g → Frm (Tg.slotsL ts) σ σ' → Q σ' H
theorem PG.imp {X : Cx} {tg : Expr} {t t' : TG} (h : PG X tg t) (i : ∀ v σ H Q, t' v σ H Q → t v σ H Q) : PG X tg t' := ⟨fun pins s σ H v u Q I r q => h.run pins s σ H v u Q I r (i v σ H Q q)⟩
theorem PGs.imp {X : Cx} {tg : List Expr} {t t' : TGs} (h : PGs X tg t) (i : ∀ v σ H Q, t' v σ H Q → t v σ H Q) : PGs X tg t' := ⟨fun pins s σ H v u Q I r q => h.run pins s σ H v u Q I r (i v σ H Q q)⟩
theorem PG.or {X : Cx} {tg : Expr} {t t' : TG} (h : PG X tg t) (h' : PG X tg t') : PG X tg (fun v σ H Q => t v σ H Q ∨ t' v σ H Q) := ⟨fun pins s σ H v u Q I r q => q.elim (h.run pins s σ H v u Q I r) (h'.run pins s σ H v u Q I r)⟩
theorem as_each {X : Cx} : ∀ {es : List Expr}, es.all noStar = true → (assignEach es X.env).map (·.2) = es.map (fun e => assign e X.env) ∧ (assignEach es X.env).length = es.length ∧ (assignEach es X.env).findIdx? (·.1) = none
  | [], _ => ⟨rfl, rfl, rfl⟩
  | e :: es, h => by
    rw [List.all_cons, Bool.and_eq_true] at h
    obtain ⟨h1, h2, h3⟩ := as_each (X := X) h.2
    have e1 : assignEach (e :: es) X.env = (false, assign e X.env) :: assignEach es X.env := by
      cases e <;> first | rfl | (exact absurd h.1 Bool.false_ne_true)
    rw [e1]
    refine ⟨by rw [List.map_cons, h1] <;> rfl, by rw [List.length_cons, h2] <;> rfl, ?_⟩
    rw [List.findIdx?_cons]
    simp only [Bool.false_eq_true, if_false, h3]
    rfl
section
variable {X : Cx} {pos : Pos} {i kk : Nat} {x : Str} {e : Expr} {es : List Expr} {t : Tg} {ts : List Tg}
theorem sg_name (h : PG X (.Name x pos) (gName i)) : PG X (.Name x pos) (tGt (kx X) (.nm i)) := PG.imp h fun v σ H Q ⟨d, L, S, g, L', r, l, w, e, q⟩ => by
  cases e
  exact q _ (l.set r) ⟨List.length_set .., fun j hj => List.getElem?_set_ne (fun z => hj (by simp [Tg.slots, z]))⟩
theorem sgs_nil : PGs X [] (tGs (kx X) []) := PGs.imp pgs_nil fun vs σ H Q ⟨ds, L, S, g, L', r, l, w, e, q⟩ => by
  cases ds with
  | nil => cases e; exact ⟨r, q σ l ⟨rfl, fun _ _ => rfl⟩⟩
  | cons d ds => cases e
theorem sgs_cons (h1 : PG X e (tGt (kx X) t)) (h2 : PGs X es (tGs (kx X) ts)) (hs : (e :: es).all noStar = true) : PGs X (e :: es) (tGs (kx X) (t :: ts)) := by
  have a := as_each (X := X) hs
  have hs' : noStar e = true ∧ es.all noStar = true := by rwa [List.all_cons, Bool.and_eq_true] at hs
  have b := as_each (X := X) hs'.2
  refine PGs.imp (pgs_cons h1 h2 (by rw [a.1, b.1] <;> rfl)) fun vs σ H Q ⟨ds, L, S, g, L', r, l, w, e, q⟩ => ?_
  cases ds with
  | nil => cases e
  | cons d ds =>
    obtain ⟨v, u, rfl, r1, r2⟩ := r
    simp only [tgAs] at e
    split at e
    · rename_i L1 e1
      exact ⟨v, u, rfl, d, L, S, g, L1, r1, l, w, e1, fun σ' l' f => ⟨ds, L1, S, g, L', r2, l', w, e, fun σ'' l'' f' => q σ'' l'' (f.trans f')⟩⟩
    · cases e
theorem sg_tup (hc : X.calm = true) (h : PGs X es (tGs (kx X) ts)) (hs : es.all noStar = true) (hl : es.length = ts.length) : PG X (.Tuple es kk pos) (tGt (kx X) (.tup ts)) := by
  have a := as_each (X := X) hs
  refine PG.imp (Rf.PG.or (pg_tup (n := ts.length) hc h (a.2.1.trans hl) a.2.2) (pg_lst (n := ts.length) hc h (a.2.1.trans hl) a.2.2)) fun v σ H Q ⟨d, L, S, g, L', r, l, w, e, q⟩ => ?_
  have len : ∀ {ts : List Tg} {ds : List D} {L L' : Ls}, tgAs ts ds L = some L' → ds.length = ts.length := by
    intro ts
    induction ts with
    | nil => intro ds L L' h; cases ds with
      | nil => rfl
      | cons d ds => cases h
    | cons t ts ih => intro ds L L' h; cases ds with
      | nil => cases h
      | cons d ds =>
        simp only [tgAs] at h
        split at h
        · rw [List.length_cons, List.length_cons, ih h]
        · cases h
  cases d with
  | tup ds =>
    obtain ⟨p, vs, rfl, hp, rr⟩ := r
    have e' : tgAs ts ds L = some L' := e
    exact .inl ⟨p, vs, rfl, hp.sq, by rw [rr.length, len e'], ds, L, S, g, L', rr, l, w, e', q⟩
  | lst ds =>
    obtain ⟨p, vs, rfl, _, hp, rr⟩ := r
    have e' : tgAs ts ds L = some L' := e
    exact .inr ⟨p, vs, rfl, SqL.of hp, by rw [rr.length, len e'], ds, L, S, g, L', rr, l, w, e', q⟩
  | _ => cases e
end

/-! ### list comprehensions -/
@[reducible] def R.nox {α : Type} (r : R α) : R α := match r with
  | .ok a S => .ok a S
  | _ => .no
open Classical in
/-- go on only if the store's list is as it was -/
noncomputable def ckd {α : Type} (S : Sto) (all : List D) (dep : Option Nat) (r : R α) : R α := match dep with
  | none => r
  | some n => if S[n]? = some (.lst all) then r else .no
noncomputable def lcLoop (dep : Option Nat) (all : List D) (t : Tg) (tt : Ls → Sto → R Bool) (te : EM) (Lw : Ls) : List D → Sto → List D → R (List D)
  | [], S, acc => ckd S all dep (.ok acc S)
  | d :: ds, S, acc => ckd S all dep (match tgA t d Lw with
    | none => .no
    | some L1 => (tt L1 S).nox.bind fun b S1 => if b = true then (te L1 S1).nox.bind fun y S2 => if acc.length < sizeLine then lcLoop dep all t tt te Lw ds S2 (acc ++ [y]) else .no
      else lcLoop dep all t tt te Lw ds S1 acc)
noncomputable def fLc (mi : Ls → Sto → R Src) (own : List Nat) (t : Tg) (tt : Ls → Sto → R Bool) (te : EM) : Ls → Sto → R (List D) := fun L S =>
  (mi L S).bind fun src S1 => lcLoop src.2 src.1 t tt te (wipeL L own) src.1 S1 []
def tYs : Ls → Sto → R Bool := fun _ S => .ok true S
theorem ckd_ok {α β : Type} {k : Kx} {P : Hp → G → α → β → Prop} {H : Hp} {g : G} {W : Value → Option Addr → Hp → Prop} {S : Sto} {all : List D} {dep : Option Nat} {r : R α} {Q : β → Hp → Prop}
    (h : Post k P H g W (ckd S all dep r) Q) : DepOk S all dep ∧ Post k P H g W r Q := by
  cases dep with
  | none => exact ⟨trivial, h⟩
  | some n =>
    unfold ckd at h
    dsimp only at h
    by_cases z : S[n]? = some (.lst all)
    · rw [if_pos z] at h; exact ⟨z, h⟩
    · rw [if_neg z] at h; exact h.elim
section
variable {α β α' β' : Type} {k : Kx} {P : Hp → G → α → β → Prop} {P' : Hp → G → α' → β' → Prop} {B H H' : Hp} {gB g g' : G} {W W' : Value → Option Addr → Hp → Prop} {r : R α} {f : α → Sto → R α'} {Q : β → Hp → Prop} {Q' : β' → Hp → Prop}
/-- the base stays -/
theorem Post.bind0 (h : Post k P' B gB W (r.bind f) Q') (e0 : Ext B gB H g) (hk : ∀ a S b H' g', Ext H g H' g' → WF k H' g' S → P H' g' a b → Post k P' B gB W (f a S) Q' → Q b H') : Post k P H g W r Q := by
  cases r with
  | ok a S => exact fun b H2 g2 e w p => hk a S b H2 g2 e w p h
  | ex x S => exact fun c d H2 g2 e w p => h c d H2 g2 (e0.trans e) w p
  | no => exact h
theorem Post.bindN (h : Post k P' B gB W (r.nox.bind f) Q') (hk : ∀ a S b H' g', Ext H g H' g' → WF k H' g' S → P H' g' a b → Post k P' B gB W (f a S) Q' → Q b H') : Post k P H g W' r Q := by
  cases r with
  | ok a S => exact fun b H2 g2 e w p => hk a S b H2 g2 e w p h
  | ex x S => exact h.elim
  | no => exact h.elim
end
/-! an own list is changed -/
section
variable {k : Kx} {H B : Hp} {g gB : G} {S : Sto} {a : Addr} {ds es : List D} {us vs : List V}
theorem own_pext (h : OwnAt k H g a (.lst ds)) : PExt H g (upd H a (.lst vs)) g := by
  obtain ⟨⟨us, e, r⟩, nf, nr⟩ := h
  refine ⟨fun _ f => f, fun b o f q => ?_, fun b xs q => ?_, fun b o u q => ?_, Nat.le_refl _, fun _ _ => rfl⟩
  · rw [upd_ne (fun z => nf (by rw [← z]; exact f))]; exact q
  · rw [upd_ne (fun z => by rw [z, e] at q; cases q)]; exact q
  · rw [upd_ne (fun z => by rw [z, e] at q; cases q)]; exact q
theorem own_wf (h : OwnAt k H g a (.lst ds)) (w : WF k H g S) : WF k (upd H a (.lst vs)) g S where
  len := w.len
  ob := fun i o e => (w.ob i o e).mono (own_pext h) fun u q => by
    rw [upd_ne (fun z => h.2.2 i (by rw [← w.len]; exact (List.getElem?_eq_some_iff.mp e).1) z)]; exact q
  inj := w.inj
  nF := w.nF
  tF := fun b f => by
    obtain ⟨o, q⟩ := w.tF b f
    exact ⟨o, by rw [upd_ne (fun z => h.2.1 (by rw [← z]; exact f))]; exact q⟩
theorem own_own (h : OwnAt k H g a (.lst ds)) (r : RepL k H g es vs) : OwnAt k (upd H a (.lst vs)) g a (.lst es) := ⟨⟨vs, upd_same, r.mono (own_pext h) _ _⟩, h.2⟩
theorem own_ext (h : OwnAt k H g a (.lst ds)) (e : Ext B gB H g) (hB : B a = none) : Ext B gB (upd H a (.lst vs)) g where
  toPExt := ⟨e.F, fun b o f q => by rw [upd_ne (ne_of_none q hB)]; exact e.kF b o f q, fun b xs q => by rw [upd_ne (ne_of_none q hB)]; exact e.kT b xs q, fun b o u q => by rw [upd_ne (ne_of_none q hB)]; exact e.kZ b o u q, e.n, e.ρ⟩
  keep := fun b o q n => by rw [upd_ne (ne_of_none q hB)]; exact e.keep b o q n
  newF := e.newF
  newρ := e.newρ
  tr := fun b o q => by
    obtain ⟨u, z⟩ := e.tr b o q
    exact ⟨u, by rw [upd_ne (ne_of_none q hB)]; exact z⟩
end
theorem wipe_in {σ : L2.St} : ∀ {vs : List Nat} {j : Nat}, j ∈ vs → (wipe σ vs)[j]? = if j < σ.length then some none else none
  | v :: vs, j, h => by
    unfold wipe
    by_cases hj : v = j
    · subst hj
      by_cases hl : v < σ.length
      · rw [List.getElem?_set_self (by rw [wipe_length]; exact hl), if_pos hl]
      · rw [List.getElem?_eq_none (by rw [List.length_set, wipe_length]; omega), if_neg hl]
    · rw [List.getElem?_set_ne hj]
      rcases List.mem_cons.mp h with z | z
      · exact absurd z.symm hj
      · exact wipe_in z
theorem wipe_out' {σ : L2.St} : ∀ {vs : List Nat} {j : Nat}, j ∉ vs → (wipe σ vs)[j]? = σ[j]?
  | [], _, _ => rfl
  | v :: vs, j, h => by
    unfold wipe
    rw [List.getElem?_set_ne (fun z => h (by simp [z]))]
    exact wipe_out' fun z => h (List.mem_cons_of_mem _ z)
theorem wipe_frm {σ σ2 : L2.St} {vs ss : List Nat} (f : Frm ss (wipe σ vs) σ2) (hs : ∀ i ∈ ss, i ∈ vs) : wipe σ2 vs = wipe σ vs := by
  apply List.ext_getElem?
  intro j
  by_cases hj : j ∈ vs
  · rw [wipe_in hj, wipe_in hj, f.1, wipe_length]
  · rw [wipe_out' hj, f.2 j fun z => hj (hs j z)]
abbrev WN : WX := fun _ _ _ _ => False
theorem PTs.imp {X : Cx} {ifs : List Expr} {t t' : TT} (h : PTs X ifs t) (i : ∀ σ H Q, t' σ H Q → t σ H Q) : PTs X ifs t' := ⟨fun pins s σ H Q I q => h.run pins s σ H Q I (i σ H Q q)⟩
section
variable {X : Cx} {W : WX} {elt tg iter c : Expr} {ifs : List Expr} {scope : Scope} {own : List (Str × Nat)} {pos : Pos} {mi : Ls → Sto → R Src} {t : Tg} {tt : Ls → Sto → R Bool} {te : EM}
theorem sts_nil : PTs X [] (tT (kx X) W tYs) := PTs.imp pts_nil fun σ H Q ⟨L, S, g, l, w, p⟩ => Post.ret p w rfl
theorem sts_one (h : ST X W c tt) : PTs X [c] (tT (kx X) W tt) := pts_one h
/-- the readings: from ours to the layer's -/
theorem lc_read {vs : List Nat} (hs : ∀ i ∈ t.slots, i ∈ vs) {k : Kx} {σ : L2.St} {H : Hp} {Q : VK} (h : tF k W (fLc mi vs t tt te) σ H Q) :
    tLc (tI k Ext W mi) (tGt k t) (tT k WN tt) (tE k WN te) vs σ H Q := by
  obtain ⟨L, S, g, l, w, p⟩ := h
  refine ⟨L, S, g, l, w, Post.bind p fun src S1 J H1 g1 e1 w1 y p1 => fun D hD => ?_⟩
  obtain ⟨all, dep⟩ := src
  have hD0 : H D = none := fresh_of e1 hD
  have l1 := (l.ext e1).wipe vs
  refine ⟨fun i m Hc => ∃ Sc gc acc, m = all.length - i ∧ i ≤ all.length ∧ Ext H1 g1 Hc gc ∧ WF k Hc gc Sc ∧ OwnAt k Hc gc D (.lst acc) ∧
    Post k (FRep k H) H1 g1 (fun c d => W c d σ) (lcLoop dep all t tt te (wipeL L vs) (all.drop i) Sc acc) Q,
    ⟨all.length, S1, g1, [], by omega, Nat.zero_le _, Ext.new hD, w1.new hD, own_new w1 rfl hD, by rw [List.drop_zero]; exact p1⟩, ?_⟩
  rintro i m Hc ⟨Sc, gc, acc, rfl, hi, ec, wc, oc, pc⟩
  by_cases hlt : i < all.length
  · rw [List.drop_eq_getElem_cons hlt] at pc
    obtain ⟨dok, pc⟩ := ckd_ok pc
    obtain ⟨go, yl⟩ := (y Hc gc Sc i ec wc dok).2 all[i] (List.getElem?_eq_getElem hlt)
    refine .inr ⟨go, fun H' => ∃ m', m' < all.length - i ∧ ∃ Sc gc acc, m' = all.length - (i + 1) ∧ i + 1 ≤ all.length ∧ Ext H1 g1 H' gc ∧ WF k H' gc Sc ∧ OwnAt k H' gc D (.lst acc) ∧
      Post k (FRep k H) H1 g1 (fun c d => W c d σ) (lcLoop dep all t tt te (wipeL L vs) (all.drop (i + 1)) Sc acc) Q, fun H' h => h, fun x H3 hy => ?_⟩
    obtain ⟨e3, w3, r3⟩ := yl x H3 hy
    have ec3 := ec.trans e3
    cases q : tgA t all[i] (wipeL L vs) with
    | none => rw [q] at pc; exact pc.elim
    | some L1 =>
      rw [q] at pc
      refine ⟨all[i], wipeL L vs, Sc, gc, L1, r3, l1.ext ec3, w3, q, fun σ2 l2 f2 => ⟨wipe_frm f2 hs, L1, Sc, gc, l2, w3, Post.bindN pc fun b S4 b' H4 g4 e4 w4 rb p4 => ?_⟩⟩
      cases rb
      have ec4 := ec3.trans e4
      have o4 := (oc.ext e3).ext e4
      by_cases hb : b = true
      · rw [if_pos hb] at p4 ⊢
        refine ⟨L1, S4, g4, l2.ext e4, w4, Post.bindN p4 fun d S5 v H5 g5 e5 w5 r5 p5 => ?_⟩
        have o5 := o4.ext e5
        have ec5 := ec4.trans e5
        obtain ⟨accV, hacc, racc⟩ := id o5.1
        by_cases hz : acc.length < sizeLine
        · rw [if_pos hz] at p5
          have racc' := racc.append (RepL.cons r5 .nil)
          exact ⟨accV, hacc, by rw [racc.length]; exact hz, _, by omega, S5, g5, acc ++ [d], rfl, hlt, own_ext o5 ec5 hD, own_wf o5 w5, own_own o5 racc', p5⟩
        · rw [if_neg hz] at p5
          exact p5.elim
      · rw [if_neg hb] at p4 ⊢
        exact ⟨_, by omega, S4, g4, acc, rfl, hlt, ec4, w4, o4, p4⟩
  · have ei : all.length = i := by omega
    rw [List.drop_eq_nil_of_le (by omega)] at pc
    obtain ⟨dok, pc⟩ := ckd_ok pc
    exact .inl ⟨(y Hc gc Sc i ec wc dok).1 ei, pc _ Hc gc ec wc ⟨D, rfl, hD0, oc⟩⟩
theorem no_fold {e : Expr} {env : Env} (h : notMark e = true) (x : Value) : foldedSetIterable e env x = pure x := by
  cases e <;> first | rfl | cases h
theorem blk_e {X : Cx} {W : WX} {e : Expr} {m : EM} {s : Shared} {H : Hp} {scope : Scope} {cenv : Env} {fp : List Addr} (hc : X.calm = true) (h : SE (X.blk s H scope cenv fp) W e m) : PE (X.blk s H scope cenv fp) e (tE (kx X) W m) := by
  have e1 : kx (X.blk s H scope cenv fp) = kx X := by rw [kx_calm hc, kx_calm (X := X.blk s H scope cenv fp) hc]
  rw [← e1]
  exact h
theorem sf_lc (hc : X.calm = true) (hN : X.N.Nodup) (hi : PI X tg iter (tI (kx X) Ext W mi)) (ok : BlkOk X.N X.env.scope scope own)
    (hg : ∀ (s : Shared) (H : Hp) (C : Addr) (cl : List (Str × Addr)) (fp : List Addr), PG (X.blk s H scope (compEnvC scope cl C X.env) fp) tg (tGt (kx X) t))
    (ht : ∀ (s : Shared) (H : Hp) (C : Addr) (cl : List (Str × Addr)) (fp : List Addr), PTs (X.blk s H scope (compEnvC scope cl C X.env) fp) ifs (tT (kx X) WN tt))
    (he : ∀ (s : Shared) (H : Hp) (C : Addr) (cl : List (Str × Addr)) (fp : List Addr), SE (X.blk s H scope (compEnvC scope cl C X.env) fp) WN elt te)
    (hs : ∀ i ∈ t.slots, i ∈ own.map (·.2)) (hm : notMark iter = true) : SF X W (.ListComp elt [⟨tg, iter, ifs, 0⟩] scope pos) (fLc mi (own.map (·.2)) t tt te) :=
  PE.imp (pe_lc hc hN hi ok hg ht (fun s H C cl fp => blk_e hc (he s H C cl fp)) (no_fold hm)) fun σ H Q q => lc_read hs q
end
end Rf

set_option Elab.async false
set_option linter.all false
set_option maxRecDepth 100000
/-! Rf, part 10: statements. -/
namespace Rf
open PySem L2 TL

inductive Fl where
  | nx | rt (d : D) | bk | ct
inductive RS where
  | ok (f : Fl) (L : Ls) (S : Sto) | ex (x : Exn) (L : Ls) (S : Sto) | no
abbrev SM := Ls → Sto → RS
@[reducible] def R.st {α : Type} (r : R α) (L : Ls) (f : α → Sto → RS) : RS := match r with
  | .ok a S => f a S
  | .ex x S => .ex x L S
  | .no => .no
@[reducible] def RS.seq (r : RS) (f : Ls → Sto → RS) : RS := match r with
  | .ok .nx L S => f L S
  | r => r

/-- the state of a frame whose call began at B -/
structure Fr (k : Kx) (B : Hp) (gB : G) (σ : L2.St) (L : Ls) (H : Hp) (g : G) (S : Sto) : Prop where
  loc : LocRel k σ L H g
  wf : WF k H g S
  base : Ext B gB H g
  new : ∀ (i : Nat) (o : O) (a : Addr), L[i]? = some (.o o) → σ[i]? = some (some (.ref a)) → B a = none
def EndsAt (k : Kx) (D : Ends) (f : Fl) (σ : L2.St) (H : Hp) (g : G) : Prop := match f with
  | .nx => D.nx σ H
  | .bk => D.bk σ H
  | .ct => D.ct σ H
  | .rt d => ∀ v, Rep k H g d v → D.rt v H
def SPost (k : Kx) (B : Hp) (gB : G) (W : WX) (H : Hp) (g : G) (r : RS) (D : Ends) : Prop := match r with
  | .ok f L S => ∀ σ' H' g', Fr k B gB σ' L H' g' S → PExt H g H' g' → EndsAt k D f σ' H' g'
  | .ex x L S => ∀ c d σ' H' g', Fr k B gB σ' L H' g' S → PExt H g H' g' → XRep k H' g' x c d → W c d σ' H'
  | .no => False
def tS (k : Kx) (W : WX) (m : SM) : TS := fun D σ H => ∃ L S g B gB, Fr k B gB σ L H g S ∧ SPost k B gB W H g (m L S) D
theorem PS.imp {X : Cx} {st : Stmt} {t t' : TS} (h : PS X st t) (i : ∀ D σ H, t' D σ H → t D σ H) : PS X st t' := ⟨fun pins s σ H D I q => h.run pins s σ H D I (i D σ H q)⟩
theorem PSs.imp {X : Cx} {st : List Stmt} {t t' : TS} (h : PSs X st t) (i : ∀ D σ H, t' D σ H → t D σ H) : PSs X st t' := ⟨fun pins s σ H D I q => h.run pins s σ H D I (i D σ H q)⟩
abbrev SS (X : Cx) (W : WX) (st : Stmt) (m : SM) : Prop := PS X st (tS (kx X) W m)
abbrev SB (X : Cx) (W : WX) (st : List Stmt) (m : SM) : Prop := PSs X st (tS (kx X) W m)

section
variable {α β : Type} {k : Kx} {B : Hp} {gB : G} {W : WX} {σ : L2.St} {L : Ls} {H H' H1 : Hp} {g g' g1 : G} {S S1 : Sto} {r : RS} {E : Ends}
theorem SPost.from (h : SPost k B gB W H g r E) (e : PExt H g H' g') : SPost k B gB W H' g' r E := by
  cases r with
  | ok f L S => exact fun σ2 H2 g2 fr e2 => h σ2 H2 g2 fr (e.trans e2)
  | ex x L S => exact fun c d σ2 H2 g2 fr e2 => h c d σ2 H2 g2 fr (e.trans e2)
  | no => exact h
theorem Fr.ext (f : Fr k B gB σ L H g S) (e : Ext H g H1 g1) (w : WF k H1 g1 S1) : Fr k B gB σ L H1 g1 S1 := ⟨f.loc.ext e, w, f.base.trans e, f.new⟩
theorem st_e {P : Hp → G → α → β → Prop} {x : R α} {f : α → Sto → RS} {Q : β → Hp → Prop} (fr : Fr k B gB σ L H g S) (p : SPost k B gB W H g (R.st x L f) E)
    (hk : ∀ a S1 b H1 g1, Fr k B gB σ L H1 g1 S1 → Ext H g H1 g1 → P H1 g1 a b → SPost k B gB W H1 g1 (f a S1) E → Q b H1) : Post k P H g (fun c d => W c d σ) x Q := by
  cases x with
  | ok a S1 => exact fun b H1 g1 e w q => hk a S1 b H1 g1 (fr.ext e w) e q (SPost.from p e.toPExt)
  | ex x S1 => exact fun c d H1 g1 e w q => p c d σ H1 g1 (fr.ext e w) e.toPExt q
  | no => exact p
theorem SPost.nx (h : SPost k B gB W H g (.ok .nx L S) E) (fr : Fr k B gB σ L H g S) : E.nx σ H := h σ H g fr (PExt.refl H g)
theorem Fr.set {i : Nat} {d : D} {v : V} (f : Fr k B gB σ L H g S) (r : Rep k H g d v) : Fr k B gB (σ.set i (some v)) (L.set i (.v d)) H g S where
  loc := f.loc.set r
  wf := f.wf
  base := f.base
  new := fun j o a h h' => by
    by_cases hj : i = j
    · subst hj
      by_cases hl : i < L.length
      · rw [List.getElem?_set_self hl] at h; cases h
      · rw [List.getElem?_eq_none (by rw [List.length_set]; omega)] at h; cases h
    · rw [List.getElem?_set_ne hj] at h h'
      exact f.new j o a h h'
/-- an own object is put into a slot -/
theorem Fr.put {i : Nat} {o : O} {a : Addr} (f : Fr k B gB σ L H g S) (h : OwnAt k H g a o) (hB : B a = none) (hs : ∀ j u, j ≠ i → L[j]? = some (.o u) → σ[j]? ≠ some (some (.ref a))) : Fr k B gB (σ.set i (some (.ref a))) (L.set i (.o o)) H g S where
  loc := {
    len := by rw [List.length_set, List.length_set, f.loc.len]
    val := fun j e h => by
      by_cases hj : i = j
      · subst hj
        by_cases hl : i < L.length
        · rw [List.getElem?_set_self hl] at h; cases h
        · rw [List.getElem?_eq_none (by rw [List.length_set]; omega)] at h; cases h
      · rw [List.getElem?_set_ne hj] at h ⊢
        exact f.loc.val j e h
    own := fun j u h => by
      by_cases hj : i = j
      · subst hj
        by_cases hl : i < L.length
        · rw [List.getElem?_set_self hl] at h
          cases h
          exact ⟨a, by rw [List.getElem?_set_self (by rw [f.loc.len]; exact hl)], by assumption⟩
        · rw [List.getElem?_eq_none (by rw [List.length_set]; omega)] at h; cases h
      · rw [List.getElem?_set_ne hj] at h ⊢
        exact f.loc.own j u h
    sep := fun j l u w b hj hl pj pl => by
      by_cases ej : i = j
      · by_cases el : i = l
        · omega
        · subst ej
          by_cases hi : i < L.length
          · rw [List.getElem?_set_ne el] at hl pl
            rw [List.getElem?_set_self (by rw [f.loc.len]; exact hi)] at pj
            cases pj
            exact absurd pl (hs l w (fun z => el z.symm) hl)
          · rw [List.getElem?_eq_none (by rw [List.length_set]; omega)] at hj; cases hj
      · by_cases el : i = l
        · subst el
          by_cases hi : i < L.length
          · rw [List.getElem?_set_ne ej] at hj pj
            rw [List.getElem?_set_self (by rw [f.loc.len]; exact hi)] at pl
            cases pl
            exact absurd pj (hs j u (fun z => ej z.symm) hj)
          · rw [List.getElem?_eq_none (by rw [List.length_set]; omega)] at hl; cases hl
        · rw [List.getElem?_set_ne ej] at hj pj
          rw [List.getElem?_set_ne el] at hl pl
          exact f.loc.sep j l u w b hj hl pj pl
    exc := f.loc.exc.set nofun }
  wf := f.wf
  base := f.base
  new := fun j u b h h' => by
    by_cases hj : i = j
    · subst hj
      by_cases hl : i < L.length
      · rw [List.getElem?_set_self (by rw [f.loc.len]; exact hl)] at h'
        cases h'; exact hB
      · rw [List.getElem?_eq_none (by rw [List.length_set]; omega)] at h; cases h
    · rw [List.getElem?_set_ne hj] at h h'
      exact f.new j u b h h'
theorem Fr.fresh {H0 : Hp} {g0 : G} {S0 : Sto} {i : Nat} {ds : List D} {v : V} (f0 : Fr k B gB σ L H0 g0 S0) (f : Fr k B gB σ L H g S) (h : FRep k H0 H g ds v) : Fr k B gB (σ.set i (some v)) (L.set i (.o (.lst ds))) H g S := by
  obtain ⟨a, rfl, hn, oa⟩ := h
  refine f.put oa (fresh_of f0.base hn) fun j u _ hj hp => ?_
  obtain ⟨b, hb, ob⟩ := f0.loc.own j u hj
  rw [hp] at hb
  cases hb
  obtain ⟨w, q⟩ := ob.1.tr
  rw [hn] at q; cases q
theorem own_at {i j : Nat} {o u : O} (h : (L.set i (.o o))[j]? = some (.o u)) (hi : ∃ w, L[i]? = some (.o w)) : ∃ w, L[j]? = some (.o w) := by
  by_cases hj : i = j
  · subst hj; exact hi
  · rw [List.getElem?_set_ne hj] at h; exact ⟨u, h⟩
/-- an own list is changed -/
theorem Fr.chg {i : Nat} {ds es : List D} {a : Addr} {vs : List V} (f : Fr k B gB σ L H g S) (hi : L[i]? = some (.o (.lst ds))) (ha : σ[i]? = some (some (.ref a))) (r : RepL k H g es vs) :
    Fr k B gB σ (L.set i (.o (.lst es))) (upd H a (.lst vs)) g S ∧ PExt H g (upd H a (.lst vs)) g := by
  obtain ⟨b, hb, oa⟩ := f.loc.own i _ hi
  rw [ha] at hb
  cases hb
  have pe := own_pext (vs := vs) oa
  have hl : i < L.length := (List.getElem?_eq_some_iff.mp hi).1
  refine ⟨⟨⟨by rw [List.length_set, f.loc.len], fun j e h => ?_, fun j u h => ?_, fun j l u w b hj hl pj pl => ?_, (f.loc.exc.mono pe).setL nofun⟩, own_wf oa f.wf, own_ext oa f.base (f.new i _ a hi ha), fun j u b h h' => ?_⟩, pe⟩
  · by_cases hj : i = j
    · subst hj
      rw [List.getElem?_set_self hl] at h; cases h
    · rw [List.getElem?_set_ne hj] at h
      obtain ⟨v, q1, q2⟩ := f.loc.val j e h
      exact ⟨v, q1, q2.mono pe _ _⟩
  · by_cases hj : i = j
    · subst hj
      rw [List.getElem?_set_self hl] at h
      cases h
      exact ⟨a, ha, own_own oa r⟩
    · rw [List.getElem?_set_ne hj] at h
      obtain ⟨b, q1, q2⟩ := f.loc.own j u h
      have hb : b ≠ a := fun z => by
        subst z
        exact hj (f.loc.sep i j _ u b hi h ha q1)
      exact ⟨b, q1, q2.1.mono pe fun o q => by rw [upd_ne hb]; exact q, q2.2⟩
  · obtain ⟨u', hj⟩ := own_at hj ⟨_, hi⟩
    obtain ⟨w', hl⟩ := own_at hl ⟨_, hi⟩
    exact f.loc.sep j l u' w' b hj hl pj pl
  · obtain ⟨u', h⟩ := own_at h ⟨_, hi⟩
    exact f.new j u' b h h'
/-- an object of the store is changed -/
theorem Fr.obj {n : Nat} {ds es : List D} {vs : List V} (f : Fr k B gB σ L H g S) (hn : S[n]? = some (.lst ds)) (r : RepL k H g es vs) :
    Fr k B gB σ L (upd H (g.ρ n) (.lst vs)) g (S.set n (.lst es)) ∧ PExt H g (upd H (g.ρ n) (.lst vs)) g := by
  have hl : n < S.length := (List.getElem?_eq_some_iff.mp hn).1
  have hg : n < g.n := by rw [← f.wf.len]; exact hl
  obtain ⟨us, hu, _⟩ := f.wf.ob n _ hn
  have pe : PExt H g (upd H (g.ρ n) (.lst vs)) g := by
    refine ⟨fun _ f => f, fun b o q1 q => ?_, fun b xs q => ?_, fun b o u q => ?_, Nat.le_refl _, fun _ _ => rfl⟩
    · rw [upd_ne (fun z => f.wf.nF n hg (by rw [← z]; exact q1))]; exact q
    · rw [upd_ne (fun z => by rw [z, hu] at q; cases q)]; exact q
    · rw [upd_ne (fun z => by rw [z, hu] at q; cases q)]; exact q
  refine ⟨⟨⟨f.loc.len, fun j e h => ?_, fun j u h => ?_, f.loc.sep, f.loc.exc.mono pe⟩, ?_, ?_, f.new⟩, pe⟩
  · obtain ⟨v, q1, q2⟩ := f.loc.val j e h
    exact ⟨v, q1, q2.mono pe _ _⟩
  · obtain ⟨b, q1, q2⟩ := f.loc.own j u h
    exact ⟨b, q1, q2.1.mono pe fun o q => by rw [upd_ne (fun z => q2.2.2 n hg z.symm)]; exact q, q2.2⟩
  · refine ⟨by rw [List.length_set]; exact f.wf.len, fun i o h => ?_, f.wf.inj, f.wf.nF, fun a q => ?_⟩
    · by_cases hi : n = i
      · subst hi
        rw [List.getElem?_set_self hl] at h
        cases h
        exact ⟨vs, upd_same, r.mono pe _ _⟩
      · rw [List.getElem?_set_ne hi] at h
        have hi' : i < g.n := by rw [← f.wf.len]; exact (List.getElem?_eq_some_iff.mp h).1
        exact (f.wf.ob i o h).mono pe fun o q => by rw [upd_ne (fun z => hi (f.wf.inj i n hi' hg z).symm)]; exact q
    · obtain ⟨o, z⟩ := f.wf.tF a q
      exact ⟨o, by rw [upd_ne (fun y => f.wf.nF n hg (by rw [← y]; exact q))]; exact z⟩
  · have e := f.base
    have key : ∀ b o, B b = some o → (∀ i, i < gB.n → gB.ρ i ≠ b) → b ≠ g.ρ n := fun b o q hb z => by
      by_cases h : n < gB.n
      · exact hb n h (by rw [z, e.ρ n h])
      · have y := e.newρ n (Nat.le_of_not_lt h) hg
        rw [← z, q] at y; cases y
    refine ⟨⟨e.F, fun b o q1 q => ?_, fun b xs q => ?_, fun b o u q => ?_, e.n, e.ρ⟩, fun b o q hb => ?_, e.newF, e.newρ, fun b o q => ?_⟩
    · exact pe.kF b o (e.F b q1) (e.kF b o q1 q)
    · exact pe.kT b xs (e.kT b xs q)
    · exact pe.kZ b o u (e.kZ b o u q)
    · rw [upd_ne (key b o q hb)]; exact e.keep b o q hb
    · by_cases z : b = g.ρ n
      · subst z; exact ⟨_, upd_same⟩
      · obtain ⟨u, y⟩ := e.tr b o q
        exact ⟨u, by rw [upd_ne z]; exact y⟩
/-- an own list is never written again -/
theorem Fr.frz {i : Nat} {ds : List D} (f : Fr k B gB σ L H g S) (hi : L[i]? = some (.o (.lst ds))) : ∃ g', Fr k B gB σ (L.set i (.v (.lst ds))) H g' S ∧ PExt H g H g' := by
  obtain ⟨a, ha, oa⟩ := f.loc.own i _ hi
  have hl : i < L.length := (List.getElem?_eq_some_iff.mp hi).1
  have pe : PExt H g H (g.frz a) := PExt.frz
  have ow : ∀ {j : Nat} {u : O}, (L.set i (.v (.lst ds)))[j]? = some (.o u) → i ≠ j ∧ L[j]? = some (.o u) := fun {j u} h => by
    by_cases hj : i = j
    · subst hj
      rw [List.getElem?_set_self hl] at h; cases h
    · rw [List.getElem?_set_ne hj] at h; exact ⟨hj, h⟩
  refine ⟨g.frz a, ⟨⟨by rw [List.length_set, f.loc.len], fun j e h => ?_, fun j u h => ?_, fun j l u w b hj hl pj pl => f.loc.sep j l u w b (ow hj).2 (ow hl).2 pj pl, (f.loc.exc.mono pe).setL nofun⟩, f.wf.frzOwn oa, f.base.frzNew (f.new i _ a hi ha), fun j u b h h' => f.new j u b (ow h).2 h'⟩, pe⟩
  · by_cases hj : i = j
    · subst hj
      rw [List.getElem?_set_self hl] at h
      cases h
      exact ⟨_, ha, oa.frz⟩
    · rw [List.getElem?_set_ne hj] at h
      obtain ⟨v, q1, q2⟩ := f.loc.val j e h
      exact ⟨v, q1, q2.mono pe _ _⟩
  · obtain ⟨hj, h⟩ := ow h
    obtain ⟨b, q1, q2⟩ := f.loc.own j u h
    refine ⟨b, q1, q2.1.mono pe fun o q => q, fun z => ?_, q2.2.2⟩
    rcases z with z | z
    · subst z
      exact hj (f.loc.sep i j _ u b hi h ha q1)
    · exact q2.2.1 z
end
end Rf

set_option Elab.async false
set_option linter.all false
set_option maxRecDepth 100000
/-! Rf, part 11: what the statements do. -/
namespace Rf
open PySem L2 TL

def sNil : SM := fun L S => .ok .nx L S
def sSeq (a b : SM) : SM := fun L S => (a L S).seq b
def sBrk : SM := fun L S => .ok .bk L S
def sCnt : SM := fun L S => .ok .ct L S
def sRet (m : EM) : SM := fun L S => (m L S).st L fun d S1 => .ok (.rt d) L S1
def sRetN : SM := fun L S => .ok (.rt .non) L S
def sDrop (m : EM) : SM := fun L S => (m L S).st L fun _ S1 => .ok .nx L S1
def sSet (i : Nat) (m : EM) : SM := fun L S => (m L S).st L fun d S1 => .ok .nx (L.set i (.v d)) S1
def sOwn (i : Nat) (m : Ls → Sto → R (List D)) : SM := fun L S => (m L S).st L fun ds S1 => .ok .nx (L.set i (.o (.lst ds))) S1
def sFrz (i : Nat) (m : SM) : SM := fun L S => match L[i]? with
  | some (.o (.lst ds)) => m (L.set i (.v (.lst ds))) S
  | _ => m L S
def sTg (t : Tg) (m : EM) : SM := fun L S => (m L S).st L fun d S1 => match tgA t d L with
  | some L1 => .ok .nx L1 S1
  | none => .no
def sPar2 (i j : Nat) (m : Ls → Sto → R (List D)) : SM := fun L S => (m L S).st L fun ds S1 => match ds with
  | [d, e] => .ok .nx ((L.set i (.v d)).set j (.v e)) S1
  | _ => .no
def sPar3 (i j l : Nat) (m : Ls → Sto → R (List D)) : SM := fun L S => (m L S).st L fun ds S1 => match ds with
  | [d, e, f] => .ok .nx (((L.set i (.v d)).set j (.v e)).set l (.v f)) S1
  | _ => .no
def sIf (c : Ls → Sto → R Bool) (a b : SM) : SM := fun L S => (c L S).st L fun t S1 => if t = true then a L S1 else b L S1
/-- the own list at i, the store's object -/
def sApp (i : Nat) (m : EM) : SM := fun L S => match L[i]? with
  | some (.o (.lst ds)) => (m L S).st L fun d S1 => if ds.length < sizeLine then .ok .nx (L.set i (.o (.lst (ds ++ [d])))) S1 else .no
  | _ => .no
def sAppO (mo m : EM) : SM := fun L S => (mo L S).st L fun o S1 => match o with
  | .obj n => match S1[n]? with
    | some (.lst _) => (m L S1).st L fun d S2 => match S2[n]? with
      | some (.lst ds) => if ds.length < sizeLine then .ok .nx L (S2.set n (.lst (ds ++ [d]))) else .no
      | _ => .no
    | _ => .no
  | _ => .no
def sPut (i : Nat) (mi mv : EM) : SM := fun L S => (mv L S).st L fun d S1 => match L[i]? with
  | some (.o (.lst ds)) => (mi L S1).st L fun j S2 => match j with
    | .int k => match ixN ds.length k with
      | some jj => .ok .nx (L.set i (.o (.lst (ds.set jj d)))) S2
      | none => .no
    | _ => .no
  | _ => .no
def sPutO (mo mi mv : EM) : SM := fun L S => (mv L S).st L fun d S1 => (mo L S1).st L fun o S2 => match o with
  | .obj n => (mi L S2).st L fun j S3 => match j with
    | .int k => match S3[n]? with
      | some (.lst ds) => match ixN ds.length k with
        | some jj => .ok .nx L (S3.set n (.lst (ds.set jj d)))
        | none => .no
      | _ => .no
    | _ => .no
  | _ => .no
def sAug (i : Nat) (o : D → D → Option D) (m : EM) : SM := fun L S => match L[i]? with
  | some (.v x) => (m L S).st L fun y S1 => match o (deref S1 x) (deref S1 y) with
    | some z => .ok .nx (L.set i (.v z)) S1
    | none => .no
  | _ => .no
/-! loops -/
open Classical in
noncomputable def ckS (S : Sto) (all : List D) (dep : Option Nat) (r : RS) : RS := match dep with
  | none => r
  | some n => if S[n]? = some (.lst all) then r else .no
noncomputable def forL (dep : Option Nat) (all : List D) (t : Tg) (b : SM) : List D → SM
  | [], L, S => ckS S all dep (.ok .nx L S)
  | d :: ds, L, S => ckS S all dep (match tgA t d L with
    | none => .no
    | some L1 => match b L1 S with
      | .ok .nx L2 S2 => forL dep all t b ds L2 S2
      | .ok .ct L2 S2 => forL dep all t b ds L2 S2
      | .ok .bk L2 S2 => .ok .nx L2 S2
      | r => r)
noncomputable def sFor (mi : Ls → Sto → R Src) (t : Tg) (b : SM) : SM := fun L S => (mi L S).st L fun src S1 => forL src.2 src.1 t b src.1 L S1
def whl (c : Ls → Sto → R Bool) (b : SM) : Nat → SM
  | 0, _, _ => .no
  | n + 1, L, S => (c L S).st L fun t S1 => if t = true then match b L S1 with
      | .ok .nx L2 S2 => whl c b n L2 S2
      | .ok .ct L2 S2 => whl c b n L2 S2
      | .ok .bk L2 S2 => .ok .nx L2 S2
      | r => r
    else .ok .nx L S1
open Classical in
noncomputable def sWhl (c : Ls → Sto → R Bool) (b : SM) : SM := fun L S => if h : ∃ n, whl c b n L S ≠ .no then whl c b (Classical.choose h) L S else .no

theorem set_own {L : Ls} {i j : Nat} {d : D} {o : O} (h : (L.set i (.v d))[j]? = some (.o o)) : i ≠ j ∧ L[j]? = some (.o o) := by
  by_cases hj : i = j
  · subst hj
    by_cases hl : i < L.length
    · rw [List.getElem?_set_self hl] at h; cases h
    · rw [List.getElem?_eq_none (by rw [List.length_set]; omega)] at h; cases h
  · rw [List.getElem?_set_ne hj] at h; exact ⟨hj, h⟩
mutual
theorem tg_own : ∀ (t : Tg) (d : D) (L L1 : Ls) (j : Nat) (o : O), tgA t d L = some L1 → L1[j]? = some (.o o) → j ∉ t.slots ∧ L[j]? = some (.o o)
  | .nm i, d, L, L1, j, o, q, h => by
    cases q
    obtain ⟨h1, h2⟩ := set_own h
    exact ⟨by simp [Tg.slots, Ne.symm h1], h2⟩
  | .tup ts, .tup ds, L, L1, j, o, q, h => tgs_own ts ds L L1 j o q h
  | .tup ts, .lst ds, L, L1, j, o, q, h => tgs_own ts ds L L1 j o q h
  | .tup _, .non, _, _, _, _, q, _ => nomatch q
  | .tup _, .bl _, _, _, _, _, q, _ => nomatch q
  | .tup _, .int _, _, _, _, _, q, _ => nomatch q
  | .tup _, .str _, _, _, _, _, q, _ => nomatch q
  | .tup _, .obj _, _, _, _, _, q, _ => nomatch q
  | .tup _, .gl _, _, _, _, _, q, _ => nomatch q
  | .tup _, .ty _, _, _, _, _, q, _ => nomatch q
  | .tup _, .scr _, _, _, _, _, q, _ => nomatch q
theorem tgs_own : ∀ (ts : List Tg) (ds : List D) (L L1 : Ls) (j : Nat) (o : O), tgAs ts ds L = some L1 → L1[j]? = some (.o o) → j ∉ Tg.slotsL ts ∧ L[j]? = some (.o o)
  | [], [], L, L1, j, o, q, h => by cases q; exact ⟨by simp [Tg.slotsL], h⟩
  | [], _ :: _, _, _, _, _, q, _ => nomatch q
  | _ :: _, [], _, _, _, _, q, _ => nomatch q
  | t :: ts, d :: ds, L, L1, j, o, q, h => by
    simp only [tgAs] at q
    split at q
    · rename_i L2 e
      obtain ⟨h1, h2⟩ := tgs_own ts ds L2 L1 j o q h
      obtain ⟨h3, h4⟩ := tg_own t d L L2 j o e h2
      exact ⟨by simp only [Tg.slotsL, List.mem_append, not_or]; exact ⟨h3, h1⟩, h4⟩
    · cases q
end
theorem tg_fr {k : Kx} {B H : Hp} {gB g : G} {σ σ' : L2.St} {L L1 : Ls} {S : Sto} {t : Tg} {d : D} (f : Fr k B gB σ L H g S) (l : LocRel k σ' L1 H g) (q : tgA t d L = some L1) (fm : Frm t.slots σ σ') : Fr k B gB σ' L1 H g S :=
  ⟨l, f.wf, f.base, fun i o a h h' => by
    obtain ⟨h1, h2⟩ := tg_own t d L L1 i o q h
    rw [fm.2 i h1] at h'
    exact f.new i o a h2 h'⟩

section
variable {X : Cx} {W : WX} {st : Stmt} {sts rest : List Stmt} {e c : Expr} {pos pos' : Pos} {m ma mb : EM} {a b : SM}
theorem sb_nil : SB X W [] sNil := PSs.imp pss_nil fun D σ H ⟨L, S, g, B, gB, f, p⟩ => SPost.nx p f
theorem seq_read {D : Ends} {σ : L2.St} {H : Hp} {k : Kx} (h : tS k W (sSeq a b) D σ H) : tSeq (tS k W a) (tS k W b) D σ H := by
  obtain ⟨L, S, g, B, gB, f, p⟩ := h
  refine ⟨L, S, g, B, gB, f, ?_⟩
  have p0 : SPost k B gB W H g ((a L S).seq b) D := p
  cases q : a L S with
  | no => rw [q] at p0; exact p0
  | ex x L1 S1 => rw [q] at p0; exact p0
  | ok fl L1 S1 =>
    rw [q] at p0
    cases fl with
    | nx => exact fun σ' H' g' f' e => ⟨L1, S1, g', B, gB, f', SPost.from p0 e⟩
    | _ => exact p0
theorem sb_cons (h1 : SS X W st a) (h2 : SB X W rest b) : SB X W (st :: rest) (sSeq a b) := PSs.imp (pss_cons h1 h2) fun D σ H h => seq_read h
theorem sb_one (h : SS X W st a) : SB X W [st] a := pss_one h
theorem ss_pass : SS X W (.Pass pos) sNil := PS.imp ps_pass fun D σ H ⟨L, S, g, B, gB, f, p⟩ => SPost.nx p f
theorem ss_brk : SS X W (.Break pos) sBrk := PS.imp ps_break fun D σ H ⟨L, S, g, B, gB, f, p⟩ => p σ H g f (PExt.refl H g)
theorem ss_cnt : SS X W (.Continue pos) sCnt := PS.imp ps_continue fun D σ H ⟨L, S, g, B, gB, f, p⟩ => p σ H g f (PExt.refl H g)
theorem ss_doc {x : Str} {j : Nat} : SS X W (.Expr (.Constant (.str x) j pos) pos') sNil := PS.imp ps_doc fun D σ H ⟨L, S, g, B, gB, f, p⟩ => SPost.nx p f
theorem ss_ret (h : SE X W e m) : SS X W (.Return (some e) pos) (sRet m) := PS.imp (ps_ret h) fun D σ H ⟨L, S, g, B, gB, f, p⟩ =>
  ⟨L, S, g, f.loc, f.wf, st_e f p fun d S1 v H1 g1 f1 e1 r p1 => p1 σ H1 g1 f1 (PExt.refl H1 g1) v r⟩
theorem ss_retN : SS X W (.Return none pos) sRetN := PS.imp ps_retN fun D σ H ⟨L, S, g, B, gB, f, p⟩ => p σ H g f (PExt.refl H g) .non rfl
theorem no_swap (h : notComp e = true) {t : Option Expr} {l : Nat} {env : Env} : swapsWith e t l env = pure false := by
  cases e <;> first | rfl | cases h
theorem ss_drop (h : SE X W e m) (hn : notComp e = true) : SS X W (.Expr e pos) (sDrop m) := PS.imp (ps_expr h (no_swap hn)) fun D σ H ⟨L, S, g, B, gB, f, p⟩ =>
  ⟨L, S, g, f.loc, f.wf, st_e f p fun d S1 v H1 g1 f1 e1 r p1 => SPost.nx p1 f1⟩
theorem set_read {k : Kx} {i : Nat} {D : Ends} {σ : L2.St} {H : Hp} (h : tS k W (sSet i m) D σ H) : tAsg (tE k W m) (gName i) D σ H := by
  obtain ⟨L, S, g, B, gB, f, p⟩ := h
  exact ⟨L, S, g, f.loc, f.wf, st_e f p fun d S1 v H1 g1 f1 e1 r p1 => SPost.nx p1 (f1.set r)⟩
theorem own_read {k : Kx} {i : Nat} {mf : Ls → Sto → R (List D)} {D : Ends} {σ : L2.St} {H : Hp} (h : tS k W (sOwn i mf) D σ H) : tAsg (tF k W mf) (gName i) D σ H := by
  obtain ⟨L, S, g, B, gB, f, p⟩ := h
  exact ⟨L, S, g, f.loc, f.wf, st_e f p fun d S1 v H1 g1 f1 e1 r p1 => SPost.nx p1 (Fr.fresh f f1 r)⟩
theorem fz_read {k : Kx} {mf : Ls → Sto → R (List D)} {σ : L2.St} {H : Hp} {Q : VK} (h : tE k W (eFz mf) σ H Q) : tF k W mf σ H Q := by
  obtain ⟨L, S, g, l, w, p⟩ := h
  refine ⟨L, S, g, l, w, ?_⟩
  unfold eFz at p
  cases q : mf L S with
  | ok ds S1 =>
    rw [q] at p
    exact fun v H1 g1 e1 w1 ⟨a, h1, h2, h3⟩ => p v H1 (g1.frz a) (e1.frzNew h2) (w1.frzOwn h3) (by rw [h1]; exact h3.frz)
  | ex x S1 => rw [q] at p; exact p
  | no => rw [q] at p; exact p
section
variable {i j l : Nat} {x y z : Str} {mf : Ls → Sto → R (List D)}
theorem ss_set (hN : X.N.Nodup) (hi : X.N[i]? = some x) (hx : Loc X.env.scope x) (hf : X.fn x = true) (h : SE X W e m) (hn : notComp e = true) : SS X W (.Assign [.Name x pos'] e pos) (sSet i m) :=
  PS.imp (ps_set hN hi hx h (no_swap hn) (.inl hf)) fun D σ H q => set_read q
theorem ss_own (hN : X.N.Nodup) (hi : X.N[i]? = some x) (hx : Loc X.env.scope x) (hf : X.fn x = true) (h : SF X W e mf) (hn : notComp e = true) : SS X W (.Assign [.Name x pos'] e pos) (sOwn i mf) :=
  PS.imp (ps_set hN hi hx h (no_swap hn) (.inl hf)) fun D σ H q => own_read q
section
variable {elt tg iter : Expr} {ifs : List Expr} {scope : Scope} {own : List (Str × Nat)} {mi : Ls → Sto → R Src} {t : Tg} {tt : Ls → Sto → R Bool} {te : EM} {spos : Pos}
/-- name = [.. for ..] -/
theorem ps_lc (hc : X.calm = true) (hN : X.N.Nodup) (hy : X.N[i]? = some y) (hyl : X.env.scope.names.lookup y = some .local) (hk : X.env.scope.kind = .function) (hl : (pos'.line == spos.line) = true)
    (ha : (scope.names.any fun (n, k) => n == y && (k == .local || k == .cell)) = false) (hi : PI X tg iter (tI (kx X) Ext W mi)) (ok : BlkOk X.N X.env.scope scope own)
    (hg : ∀ (s : Shared) (H : Hp) (C : Addr) (cl : List (Str × Addr)) (fp : List Addr), PG (X.blk s H scope (compEnvC scope cl C X.env) fp) tg (tGt (kx X) t))
    (ht : ∀ (s : Shared) (H : Hp) (C : Addr) (cl : List (Str × Addr)) (fp : List Addr), PTs (X.blk s H scope (compEnvC scope cl C X.env) fp) ifs (tT (kx X) WN tt))
    (he : ∀ (s : Shared) (H : Hp) (C : Addr) (cl : List (Str × Addr)) (fp : List Addr), SE (X.blk s H scope (compEnvC scope cl C X.env) fp) WN elt te)
    (hs : ∀ i ∈ t.slots, i ∈ own.map (·.2)) (hm : notMark iter = true) : PS X (.Assign [.Name y pos'] (.ListComp elt [⟨tg, iter, ifs, 0⟩] scope spos) pos) (tAsg (tF (kx X) W (fLc mi (own.map (·.2)) t tt te)) (gName i)) :=
  PS.imp (ps_setLc hc hN hy hyl (sw_true hk hyl hl ha) hi ok hg ht (fun s H C cl fp => blk_e hc (he s H C cl fp)) (no_fold hm)) fun D σ H q => lc_read hs q
end
theorem ss_setLc (h : PS X st (tAsg (tF (kx X) W mf) (gName i))) : SS X W st (sSet i (eFz mf)) := PS.imp h fun D σ H q => fz_read (set_read q)
theorem ss_ownLc (h : PS X st (tAsg (tF (kx X) W mf) (gName i))) : SS X W st (sOwn i mf) := PS.imp h fun D σ H q => own_read q
theorem ss_frz (h : SS X W st a) : SS X W st (sFrz i a) := PS.imp h fun D σ H ⟨L, S, g, B, gB, f, p⟩ => by
  unfold sFrz at p
  split at p
  · rename_i ds q
    obtain ⟨g', f', e⟩ := f.frz q
    exact ⟨_, S, g', B, gB, f', SPost.from p e⟩
  · exact ⟨L, S, g, B, gB, f, p⟩
theorem ss_tg {tg : Expr} {t : Tg} (hn : notComp e = true) (hw : swappedStores [tg] e X.env = pure none) (h1 : (assignEach [tg] X.env).map (·.2) = [assign tg X.env]) (h : SE X W e m) (hg : PG X tg (tGt (kx X) t)) :
    SS X W (.Assign [tg] e pos) (sTg t m) := PS.imp (ps_asg h hg (no_swap hn) hw h1) fun D σ H ⟨L, S, g, B, gB, f, p⟩ => ⟨L, S, g, f.loc, f.wf, st_e f p fun d S1 v H1 g1 f1 e1 r p1 => by
      cases q : tgA t d L with
      | none => rw [q] at p1; exact p1.elim
      | some L1 =>
        rw [q] at p1
        exact ⟨d, L, S1, g1, L1, r, f1.loc, f1.wf, q, fun σ' l' fm => SPost.nx p1 (tg_fr f1 l' q fm)⟩⟩

theorem par_read2 {k : Kx} {i j : Nat} {ma : Ls → Sto → R (List D)} {D : Ends} {σ : L2.St} {H : Hp} (h : tS k W (sPar2 i j ma) D σ H) : tPar i j (tAE k W ma) D σ H := by
  obtain ⟨L, S, g, B, gB, f, p⟩ := h
  refine ⟨L, S, g, f.loc, f.wf, st_e f p fun ds S1 vs H1 g1 f1 e1 r p1 => ?_⟩
  match ds, r, p1 with
  | [d, e], ⟨v, vr, e1, r1, w, wr, e2, r2, r3⟩, p1 =>
    subst e1 e2 r3
    exact ⟨v, w, rfl, SPost.nx p1 ((f1.set r1).set r2)⟩
  | [], _, p1 => exact p1.elim
  | [_], _, p1 => exact p1.elim
  | _ :: _ :: _ :: _, _, p1 => exact p1.elim
theorem par_read3 {k : Kx} {i j l : Nat} {ma : Ls → Sto → R (List D)} {D : Ends} {σ : L2.St} {H : Hp} (h : tS k W (sPar3 i j l ma) D σ H) : tPar3 i j l (tAE k W ma) D σ H := by
  obtain ⟨L, S, g, B, gB, f, p⟩ := h
  refine ⟨L, S, g, f.loc, f.wf, st_e f p fun ds S1 vs H1 g1 f1 e1 r p1 => ?_⟩
  match ds, r, p1 with
  | [d, e, z], ⟨v, vr, e1, r1, w, wr, e2, r2, u, ur, e3, r3, r4⟩, p1 =>
    subst e1 e2 e3 r4
    exact ⟨v, w, u, rfl, SPost.nx p1 (((f1.set r1).set r2).set r3)⟩
  | [], _, p1 => exact p1.elim
  | [_], _, p1 => exact p1.elim
  | [_, _], _, p1 => exact p1.elim
  | _ :: _ :: _ :: _ :: _, _, p1 => exact p1.elim
theorem ss_if {tc : Ls → Sto → R Bool} {p q : List Stmt} (hc : ST X W c tc) (ha : SB X W p a) (hb : SB X W q b) : SS X W (.If c p q pos) (sIf tc a b) := PS.imp (ps_if hc ha hb) fun D σ H ⟨L, S, g, B, gB, f, p⟩ =>
  ⟨L, S, g, f.loc, f.wf, st_e (P := fun _ _ (b c : Bool) => c = b) f p fun t S1 t' H1 g1 f1 e1 r p1 => by
    cases (show t' = t from r)
    cases t with
    | true => exact ⟨L, S1, g1, B, gB, f1, p1⟩
    | false => exact ⟨L, S1, g1, B, gB, f1, p1⟩⟩
theorem pe_app {o : Expr} {apos : Pos} {to te : TE} (ho : PE X o to) (he : PE X e te) (hs : noStar e = true) (hsup : notSuper o = true) (hl : (apos.endLine == pos.line) = true) :
    PE X (.Call (.Attribute o "append" apos) [e] [] pos) (tBM X.K "list" rAppend to (tCons te tNil)) :=
  pe_bm PySem.F.plainAttrs_list PySem.F.slot_list_append PySem.F.type_list_append mt_append ho (pa_cons he pa_nil (star_cons hs)) (not_super hsup) (by rw [star_cons hs]; rfl) hl (star_cons hs) rfl
theorem ss_app {i : Nat} {x : Str} {p apos : Pos} (hv : PE X (.Name x p) (tVar i)) (he : SE X W e m) (hs : noStar e = true) (hl : (apos.endLine == pos.line) = true) : SS X W (.Expr (.Call (.Attribute (.Name x p) "append" apos) [e] [] pos) pos') (sApp i m) :=
  PS.imp (ps_expr (pe_app hv he hs rfl hl) rfl) fun D σ H ⟨L, S, g, B, gB, f, p⟩ => by
    unfold sApp at p
    split at p
    · rename_i ds q
      obtain ⟨a, ha, oa⟩ := f.loc.own i _ q
      obtain ⟨us, hu, ru⟩ := id oa.1
      refine ⟨_, ha, .inl ⟨rfl, us, SqL.of hu⟩, L, S, g, f.loc, f.wf, st_e f p fun d S1 v H1 g1 f1 e1 r p1 => ?_⟩
      obtain ⟨us1, hu1, ru1⟩ := (oa.ext e1).1
      by_cases hz : ds.length < sizeLine
      · rw [if_pos hz] at p1
        obtain ⟨f2, pe⟩ := f1.chg q ha (ru1.append (.cons r .nil))
        exact ⟨a, us1, v, rfl, rfl, hu1, by rw [ru1.length]; exact hz, p1 σ _ g1 f2 pe⟩
      · rw [if_neg hz] at p1; exact p1.elim
    · exact p.elim
end
end
end Rf

set_option Elab.async false
set_option linter.all false
set_option maxRecDepth 100000
/-! Rf, part 12: loops, defs. -/
namespace Rf
open PySem L2 TL

theorem ckS_ok {k : Kx} {B : Hp} {gB : G} {W : WX} {H : Hp} {g : G} {S : Sto} {all : List D} {dep : Option Nat} {r : RS} {D : Ends} (h : SPost k B gB W H g (ckS S all dep r) D) : DepOk S all dep ∧ SPost k B gB W H g r D := by
  cases dep with
  | none => exact ⟨trivial, h⟩
  | some n =>
    unfold ckS at h
    dsimp only at h
    by_cases z : S[n]? = some (.lst all)
    · rw [if_pos z] at h; exact ⟨z, h⟩
    · rw [if_neg z] at h; exact h.elim
/-- a turn's end -/
theorem turn_end {k : Kx} {B : Hp} {gB : G} {W : WX} {H : Hp} {g : G} {r : RS} {D : Ends} {N : L2.St → Hp → Prop} {f : Ls → Sto → RS}
    (h : SPost k B gB W H g (match r with | .ok .nx L2 S2 => f L2 S2 | .ok .ct L2 S2 => f L2 S2 | .ok .bk L2 S2 => .ok .nx L2 S2 | r => r) D)
    (hN : ∀ σ' L' H' g' S', Fr k B gB σ' L' H' g' S' → PExt H g H' g' → SPost k B gB W H' g' (f L' S') D → N σ' H') : SPost k B gB W H g r { D with nx := N, ct := N, bk := D.nx } := by
  cases r with
  | no => exact h
  | ex x L S => exact h
  | ok fl L S =>
    cases fl with
    | nx => exact fun σ' H' g' fr e => hN σ' L H' g' S fr e (SPost.from h e)
    | ct => exact fun σ' H' g' fr e => hN σ' L H' g' S fr e (SPost.from h e)
    | bk => exact h
    | rt d => exact h
theorem for_read {k : Kx} {W : WX} {mi : Ls → Sto → R Src} {t : Tg} {b : SM} {D : Ends} {σ : L2.St} {H : Hp} (h : tS k W (sFor mi t b) D σ H) : tFor (tI k PExt W mi) (tGt k t) (tS k W b) D σ H := by
  obtain ⟨L, S, g, B, gB, f, p⟩ := h
  refine ⟨L, S, g, f.loc, f.wf, st_e f p fun src S1 J H1 g1 f1 e1 y p1 => ?_⟩
  obtain ⟨all, dep⟩ := src
  let Wv : Nat → Nat → L2.St → Hp → Prop := fun i m σ' H' => ∃ Lc Sc gc, m = all.length - i ∧ i ≤ all.length ∧ Fr k B gB σ' Lc H' gc Sc ∧ PExt H1 g1 H' gc ∧ SPost k B gB W H' gc (forL dep all t b (all.drop i) Lc Sc) D
  refine ⟨Wv, ⟨all.length, L, S1, g1, by omega, Nat.zero_le _, f1, PExt.refl H1 g1, by rw [List.drop_zero]; exact p1⟩, ?_⟩
  rintro i m σ2 H2 ⟨Lc, Sc, gc, rfl, hi, fc, ec, pc⟩
  by_cases hlt : i < all.length
  · rw [List.drop_eq_getElem_cons hlt] at pc
    obtain ⟨dok, pc⟩ := ckS_ok pc
    obtain ⟨go, yl⟩ := (y H2 gc Sc i ec fc.wf dok).2 all[i] (List.getElem?_eq_getElem hlt)
    refine .inr ⟨go, fun σ' H' => ∃ m', m' < all.length - i ∧ Wv (i + 1) m' σ' H', fun σ' H' h => h, fun x H3 hy => ?_⟩
    obtain ⟨e3, w3, r3⟩ := yl x H3 hy
    have f3 := fc.ext e3 w3
    cases q : tgA t all[i] Lc with
    | none => rw [q] at pc; exact pc.elim
    | some L1 =>
      rw [q] at pc
      refine ⟨all[i], Lc, Sc, gc, L1, r3, f3.loc, w3, q, fun σ4 l4 fm => ⟨L1, Sc, gc, B, gB, tg_fr f3 l4 q fm, turn_end (SPost.from pc e3.toPExt) fun σ' L' H' g' S' f' e' p' => ?_⟩⟩
      exact ⟨_, by omega, L', S', g', rfl, hlt, f', (ec.trans e3.toPExt).trans e', p'⟩
  · have ei : all.length = i := by omega
    rw [List.drop_eq_nil_of_le (by omega)] at pc
    obtain ⟨dok, pc⟩ := ckS_ok pc
    exact .inl ⟨(y H2 gc Sc i ec fc.wf dok).1 ei, SPost.nx pc fc⟩
theorem whl_read {k : Kx} {W : WX} {c : Ls → Sto → R Bool} {b : SM} {D : Ends} {σ : L2.St} {H : Hp} (h : tS k W (sWhl c b) D σ H) : tWhile (tT k W c) (tS k W b) D σ H := by
  obtain ⟨L, S, g, B, gB, f, p⟩ := h
  unfold sWhl at p
  split at p
  · rename_i hn
    refine ⟨fun m σ' H' => ∃ L S g, Fr k B gB σ' L H' g S ∧ SPost k B gB W H' g (whl c b m L S) D, ⟨_, L, S, g, f, p⟩, ?_⟩
    rintro m σ1 H1 ⟨L1, S1, g1, f1, p1⟩
    cases m with
    | zero => exact p1.elim
    | succ m =>
      refine ⟨L1, S1, g1, f1.loc, f1.wf, st_e (P := fun _ _ (b c : Bool) => c = b) f1 p1 fun t S2 t' H2 g2 f2 e2 r p2 => ?_⟩
      cases (show t' = t from r)
      cases t with
      | true =>
        rw [if_pos rfl] at p2 ⊢
        refine ⟨fun σ' H' => ∃ L S g, Fr k B gB σ' L H' g S ∧ SPost k B gB W H' g (whl c b m L S) D, fun σ' H' h => ⟨m, Nat.lt_succ_self m, h⟩, L1, S2, g2, B, gB, f2, turn_end p2 fun σ' L' H' g' S' f' e' p' => ⟨L', S', g', f', p'⟩⟩
      | false =>
        rw [if_neg Bool.false_ne_true] at p2 ⊢
        exact SPost.nx p2 f2
  · exact p.elim
section
variable {X : Cx} {W : WX} {c tg iter : Expr} {body : List Stmt} {pos : Pos} {b : SM} {mc : Ls → Sto → R Bool} {mi : Ls → Sto → R Src} {t : Tg}
theorem ss_while (hp : PassesOwn (model X.prog X.w) X.A X.env X.xe) (hc : ST X W c mc) (hb : SB X W body b) : SS X W (.While c body [] pos) (sWhl mc b) := PS.imp (ps_while hp hc hb) fun D σ H h => whl_read h
theorem ss_for (hp : PassesOwn (model X.prog X.w) X.A X.env X.xe) (hc : X.calm = true) (hi : PI X tg iter (tI (kx X) PExt W mi)) (hg : PG X tg (tGt (kx X) t)) (hb : SB X W body b) (hm : notMark iter = true) : SS X W (.For tg iter body [] pos) (sFor mi t b) :=
  PS.imp (ps_for hp hc hi hg hb (no_fold hm)) fun D σ H h => for_read h
end
/-! ### while: enough turns -/
theorem whl_more {c : Ls → Sto → R Bool} {b : SM} : ∀ (n : Nat) (L : Ls) (S : Sto), whl c b n L S ≠ .no → whl c b (n + 1) L S = whl c b n L S
  | 0, L, S, h => absurd rfl h
  | n + 1, L, S, h => by
    rw [whl, whl]
    rw [whl] at h
    cases q : c L S with
    | no => rfl
    | ex x S1 => rfl
    | ok t S1 =>
      rw [q] at h
      cases t with
      | false => rfl
      | true =>
        dsimp only [R.st] at h ⊢
        simp only [if_true] at h ⊢
        cases z : b L S1 with
        | no => rfl
        | ex x L2 S2 => rfl
        | ok fl L2 S2 =>
          rw [z] at h
          cases fl with
          | nx => exact whl_more n L2 S2 h
          | ct => exact whl_more n L2 S2 h
          | bk => rfl
          | rt d => rfl
theorem whl_le {c : Ls → Sto → R Bool} {b : SM} {L : Ls} {S : Sto} {n : Nat} (h : whl c b n L S ≠ .no) (j : Nat) : whl c b (n + j) L S = whl c b n L S := by
  induction j with
  | zero => rfl
  | succ j ih => rw [← Nat.add_assoc, whl_more _ _ _ (by rw [ih]; exact h), ih]
theorem sWhl_eq {c : Ls → Sto → R Bool} {b : SM} {L : Ls} {S : Sto} {n : Nat} (h : whl c b n L S ≠ .no) : sWhl c b L S = whl c b n L S := by
  have e : ∃ n, whl c b n L S ≠ .no := ⟨n, h⟩
  unfold sWhl
  rw [dif_pos e]
  have h2 := Classical.choose_spec e
  rcases Nat.le_total (Classical.choose e) n with z | z
  · obtain ⟨j, rfl⟩ := Nat.exists_eq_add_of_le z
    rw [whl_le h2]
  · obtain ⟨j, hj⟩ := Nat.exists_eq_add_of_le z
    rw [hj, whl_le h]

/-! ### defs -/
def endR : RS → R D
  | .ok .nx _ S => .ok .non S
  | .ok (.rt d) _ S => .ok d S
  | .ex x _ S => .ex x S
  | _ => .no
def fnSem (n np : Nat) (m : SM) : Fn := fun ds S => if ds.length = np then endR (m (ds.map .v ++ List.replicate (n - np) .un) S) else .no
theorem loc_start {k : Kx} {H : Hp} {g : G} {ds : List D} {vs : List V} {N : List Str} (r : RepL k H g ds vs) : LocRel k (L2.start N vs) (ds.map .v ++ List.replicate (N.length - ds.length) .un) H g where
  len := by unfold L2.start; simp [r.length]
  val := fun i d h => by
    unfold L2.start
    by_cases hi : i < ds.length
    · rw [List.getElem?_append_left (by rw [List.length_map]; exact hi), List.getElem?_map] at h
      cases q : ds[i]? with
      | none => rw [q] at h; cases h
      | some e =>
        rw [q] at h
        cases h
        obtain ⟨v, h1, h2⟩ := r.get q
        exact ⟨v, by rw [List.getElem?_append_left (by rw [List.length_map, r.length]; exact hi), List.getElem?_map, h1]; rfl, h2⟩
    · rw [List.getElem?_append_right (by rw [List.length_map]; omega), List.getElem?_replicate] at h
      split at h <;> cases h
  own := fun i o h => by
    by_cases hi : i < ds.length
    · rw [List.getElem?_append_left (by rw [List.length_map]; exact hi), List.getElem?_map] at h
      cases q : ds[i]? with
      | none => rw [q] at h; cases h
      | some e => rw [q] at h; cases h
    · rw [List.getElem?_append_right (by rw [List.length_map]; omega), List.getElem?_replicate] at h
      split at h <;> cases h
  sep := fun i j o u a h => by
    by_cases hi : i < ds.length
    · rw [List.getElem?_append_left (by rw [List.length_map]; exact hi), List.getElem?_map] at h
      cases q : ds[i]? with
      | none => rw [q] at h; cases h
      | some e => rw [q] at h; cases h
    · rw [List.getElem?_append_right (by rw [List.length_map]; omega), List.getElem?_replicate] at h
      split at h <;> cases h
  exc := fun i x h => by
    by_cases hi : i < ds.length
    · rw [List.getElem?_append_left (by rw [List.length_map]; exact hi), List.getElem?_map] at h
      cases q : ds[i]? with
      | none => rw [q] at h; cases h
      | some e => rw [q] at h; cases h
    · rw [List.getElem?_append_right (by rw [List.length_map]; omega), List.getElem?_replicate] at h
      split at h <;> cases h
theorem fn_body {k : Kx} {n np : Nat} {m : SM} {N : List Str} {vs : List V} {H : Hp} {Q : VK} {E : XK} (hn : N.length = n) (h : spC k (fnSem n np m) vs H Q E) :
    tS k (fun c d _ H => E c d H) m { nx := fun _ H' => Q .non H', rt := Q } (L2.start N vs) H := by
  obtain ⟨ds, S, g, r, w, p⟩ := h
  unfold fnSem at p
  split at p
  · rename_i hl
    subst hn
    subst hl
    refine ⟨_, S, g, H, g, ⟨loc_start r, w, Ext.refl H g, fun i o a h h' => ?_⟩, ?_⟩
    · exfalso
      by_cases hi : i < ds.length
      · rw [List.getElem?_append_left (by rw [List.length_map]; exact hi), List.getElem?_map] at h
        cases q : ds[i]? with
        | none => rw [q] at h; cases h
        | some e => rw [q] at h; cases h
      · rw [List.getElem?_append_right (by rw [List.length_map]; omega), List.getElem?_replicate] at h
        split at h <;> cases h
    · cases q : m (ds.map .v ++ List.replicate (N.length - ds.length) .un) S with
      | no => rw [q] at p; exact p.elim
      | ex x L S1 => rw [q] at p; exact fun c d σ' H' g' f' e' xr => p c d H' g' f'.base f'.wf xr
      | ok fl L S1 =>
        rw [q] at p
        cases fl with
        | nx => exact fun σ' H' g' f' e' => p .non H' g' f'.base f'.wf rfl
        | rt d => exact fun σ' H' g' f' e' v rv => p v H' g' f'.base f'.wf rv
        | bk => exact p.elim
        | ct => exact p.elim
  · exact p.elim
abbrev WE (E : XK) : WX := fun c d _ H => E c d H
theorem rf_fn {P : Program} {w : World} {K : PySem.W.Frag} {mg : Str → Option Value} {base : Heap} {x qual : Str} {params : Arguments} {body : List Stmt} {scope : Scope} {dvs : List V} {kws : List (Str × V)} {f : Addr} {fd : FuncData} {N ps : List Str} {n np j : Nat} {m : SM}
    (F : FunD K x qual params body scope dvs kws f fd) (S : FnScope N ps scope) (hn : N.length = n) (hp : ps.length = np)
    (hb : ∀ (cdv : Value) (A : Around) (outer : List Env) (s : Shared) (H : Hp) (E : XK), Room j (A.deeper (PyProof.Rows.envOfC qual scope s.heap.objs.size f cdv)) →
      Takes (cxOf (L2.CX P w) P w K mg base N qual scope f cdv A outer s H E) (WE E) → PassesOwn (model P w) (A.deeper (PyProof.Rows.envOfC qual scope s.heap.objs.size f cdv)) (PyProof.Rows.envOfC qual scope s.heap.objs.size f cdv) (cxOf (L2.CX P w) P w K mg base N qual scope f cdv A outer s H E).xe →
      SB (cxOf (L2.CX P w) P w K mg base N qual scope f cdv A outer s H E) (WE E) body m) : FnOk P w K mg base (L2.CX P w) (j + 1) f fd ps (spC (k0 K mg) (fnSem n np m)) :=
  F.ok S (fun vs H Q E ⟨ds, S, g, r, w, p⟩ => by
      unfold fnSem at p
      split at p
      · rename_i hl
        rw [r.length, hl, hp]
      · exact p.elim)
    fun cdv A outer s H vs Q E hr h => ⟨_, hb cdv A outer s H E hr (takes_of (X := cxOf (L2.CX P w) P w K mg base N qual scope f cdv A outer s H E) rfl rfl rfl rfl) (passes_of (X := cxOf (L2.CX P w) P w K mg base N qual scope f cdv A outer s H E) rfl), fn_body hn (h.kc rfl rfl)⟩
end Rf

set_option Elab.async false
set_option linter.all false
set_option maxRecDepth 100000
/-! Rf, part 13: more statements. -/
namespace Rf
open PySem L2 TL

section
variable {X : Cx} {W : WX} {st : Stmt} {e a b c o ix : Expr} {pos pos' : Pos} {m mi mo : EM} {i j l : Nat} {x y z : Str} {ma : Ls → Sto → R (List D)}
theorem ss_par2 {px py pt pt2 : Pos} {kt k2 : Nat} (hc : X.calm = true) (hN : X.N.Nodup) (hi : X.N[i]? = some x) (hj : X.N[j]? = some y) (hij : i ≠ j)
    (hx : X.env.scope.names.lookup x = some .local) (hy : X.env.scope.names.lookup y = some .local) (ha : SAE X W [a, b] ma)
    (hw : swappedStores [.Tuple [.Name x px, .Name y py] kt pt] (.Tuple [a, b] k2 pt2) X.env = pure (some [x, y])) :
    SS X W (.Assign [.Tuple [.Name x px, .Name y py] kt pt] (.Tuple [a, b] k2 pt2) pos) (sPar2 i j ma) :=
  PS.imp (ps_par hc hN hi hj hij hx hy ha hw) fun D σ H h => par_read2 h
theorem ss_par3 {px py pz pt pt2 : Pos} {kt k2 : Nat} (hc : X.calm = true) (hN : X.N.Nodup) (hi : X.N[i]? = some x) (hj : X.N[j]? = some y) (hl : X.N[l]? = some z) (hij : i ≠ j) (hil : i ≠ l) (hjl : j ≠ l)
    (hx : X.env.scope.names.lookup x = some .local) (hy : X.env.scope.names.lookup y = some .local) (hz : X.env.scope.names.lookup z = some .local) (ha : SAE X W [a, b, c] ma)
    (hw : swappedStores [.Tuple [.Name x px, .Name y py, .Name z pz] kt pt] (.Tuple [a, b, c] k2 pt2) X.env = pure (some [x, y, z])) :
    SS X W (.Assign [.Tuple [.Name x px, .Name y py, .Name z pz] kt pt] (.Tuple [a, b, c] k2 pt2) pos) (sPar3 i j l ma) :=
  PS.imp (ps_par3 hc hN hi hj hl hij hil hjl hx hy hz ha hw) fun D σ H h => par_read3 h
theorem ss_appO {apos : Pos} (ho : SE X W o mo) (he : SE X W e m) (hs : noStar e = true) (hsup : notSuper o = true) (hl : (apos.endLine == pos.line) = true) :
    SS X W (.Expr (.Call (.Attribute o "append" apos) [e] [] pos) pos') (sAppO mo m) :=
  PS.imp (ps_expr (pe_app ho he hs hsup hl) rfl) fun D σ H ⟨L, S, g, B, gB, f, p⟩ =>
    ⟨L, S, g, f.loc, f.wf, st_e f p fun d S1 v H1 g1 f1 e1 r p1 => by
      cases d with
      | obj n =>
        obtain ⟨hn, rfl⟩ := r
        obtain ⟨ob, hob⟩ : ∃ ob, S1[n]? = some ob := ⟨_, List.getElem?_eq_getElem (by rw [f1.wf.len]; exact hn)⟩
        cases ob with
        | lst ds0 =>
          simp only [hob] at p1
          obtain ⟨us, hu, _⟩ := f1.wf.ob n _ hob
          refine ⟨.inl ⟨rfl, us, SqL.of hu⟩, L, S1, g1, f1.loc, f1.wf, st_e f1 p1 fun d2 S2 v2 H2 g2 f2 e2 r2 p2 => ?_⟩
          split at p2
          · rename_i ds q
            split at p2
            · rename_i hz
              obtain ⟨us2, hu2, ru2⟩ := f2.wf.ob n _ q
              obtain ⟨f3, pe⟩ := f2.obj q (ru2.append (.cons r2 .nil))
              refine ⟨_, us2, v2, rfl, rfl, ?_, by rw [ru2.length]; exact hz, ?_⟩
              · rw [← e2.ρ n hn]; exact hu2
              · rw [← e2.ρ n hn]; exact p2 σ _ g2 f3 pe
            · exact p2.elim
          · exact p2.elim
        | _ => simp only [hob] at p1; exact p1.elim
      | _ => exact p1.elim⟩
theorem ixN_len {us : List V} {ds : List D} {k : Kx} {H : Hp} {g : G} (r : RepL k H g ds us) : us.length = ds.length := r.length
theorem ss_put {px ps : Pos} (hv : PE X (.Name x px) (tVar i)) (hi : SE X W ix mi) (he : SE X W e m) (hn : notComp e = true)
    (ha : ∀ v, assign (.Subscript (.Name x px) ix ps) X.env v = (do
      let ov ← holding [v] (eval (.Name x px) X.env)
      let iv ← holding [v, ov] (eval ix X.env)
      standAt ps
      holding [v, ov, iv] (setItem ov iv v)
      release [v, ov, iv] [])) : SS X W (.Assign [.Subscript (.Name x px) ix ps] e pos) (sPut i mi m) :=
  PS.imp (ps_asg he (pg_sub hv hi set_list ha) (by unfold swapsWithSole; exact no_swap hn) rfl rfl) fun D σ H ⟨L, S, g, B, gB, f, p⟩ =>
    ⟨L, S, g, f.loc, f.wf, st_e f p fun d S1 v H1 g1 f1 e1 r p1 => by
      split at p1
      · rename_i ds q
        obtain ⟨p0, ha, oa⟩ := f1.loc.own i _ q
        refine ⟨_, ha, L, S1, g1, f1.loc, f1.wf, st_e f1 p1 fun jd S2 w H2 g2 f2 e2 r2 p2 => ?_⟩
        split at p2
        · rename_i kk
          cases r2
          split at p2
          · rename_i jj hjj
            obtain ⟨us, hu, ru⟩ := (oa.ext e2).1
            obtain ⟨f3, pe⟩ := f2.chg q ha (ru.set jj (r.mono e2.toPExt _ _))
            exact ⟨p0, us, kk, jj, rfl, rfl, hu, by rw [ru.length]; exact hjj, p2 σ _ g2 f3 pe⟩
          · exact p2.elim
        · exact p2.elim
      · exact p1.elim⟩
theorem ss_putO {ps : Pos} (ho : SE X W o mo) (hi : SE X W ix mi) (he : SE X W e m) (hn : notComp e = true)
    (ha : ∀ v, assign (.Subscript o ix ps) X.env v = (do
      let ov ← holding [v] (eval o X.env)
      let iv ← holding [v, ov] (eval ix X.env)
      standAt ps
      holding [v, ov, iv] (setItem ov iv v)
      release [v, ov, iv] [])) : SS X W (.Assign [.Subscript o ix ps] e pos) (sPutO mo mi m) :=
  PS.imp (ps_asg he (pg_sub ho hi set_list ha) (by unfold swapsWithSole; exact no_swap hn) rfl rfl) fun D σ H ⟨L, S, g, B, gB, f, p⟩ =>
    ⟨L, S, g, f.loc, f.wf, st_e f p fun d S1 v H1 g1 f1 e1 r p1 => ⟨L, S1, g1, f1.loc, f1.wf, st_e f1 p1 fun od S2 w H2 g2 f2 e2 r2 p2 => by
      split at p2
      · rename_i n
        obtain ⟨hn, rfl⟩ := r2
        refine ⟨L, S2, g2, f2.loc, f2.wf, st_e f2 p2 fun jd S3 u H3 g3 f3 e3 r3 p3 => ?_⟩
        split at p3
        · rename_i kk
          cases r3
          split at p3
          · rename_i ds q
            split at p3
            · rename_i jj hjj
              obtain ⟨us, hu, ru⟩ := f3.wf.ob n _ q
              obtain ⟨f4, pe⟩ := f3.obj q (ru.set jj (r.mono (e2.trans e3).toPExt _ _))
              refine ⟨_, us, kk, jj, rfl, rfl, ?_, by rw [ru.length]; exact hjj, ?_⟩
              · rw [← e3.ρ n hn]; exact hu
              · rw [← e3.ρ n hn]; exact p3 σ _ g3 f4 pe
            · exact p3.elim
          · exact p3.elim
        · exact p3.elim
      · exact p2.elim⟩⟩
theorem ss_aug {op : Operator} {oo : D → D → Option D} (hN : X.N.Nodup) (hi : X.N[i]? = some x) (hx : Loc X.env.scope x) (hf : X.fn x = true) (h : OpC X (inplaceOp op) oo) (he : SE X W e m) : SS X W (.AugAssign (.Name x pos') op e pos) (sAug i oo m) :=
  PS.imp (ps_aug hN hi hx he (OpR.ex h) (.inl hf)) fun D σ H ⟨L, S, g, B, gB, f, p⟩ => by
    unfold sAug at p
    split at p
    · rename_i xd q
      obtain ⟨xv, hxv, rx⟩ := f.loc.val i _ q
      refine ⟨xv, hxv, L, S, g, f.loc, f.wf, st_e f p fun yd S1 yv H1 g1 f1 e1 ry p1 => ?_⟩
      split at p1
      · rename_i zd hz
        have c1 : PkRep (kx X) σ L H1 g1 xd xv := .inl (rx.mono e1.toPExt _ _)
        have c2 : PkRep (kx X) σ L H1 g1 yd yv := .inl ry
        refine ⟨g1, S1, _, _, zd, f1.wf, c1.c f1.loc f1.wf, c2.c f1.loc f1.wf, hz, fun v H2 g2 e2 w2 rz => ?_⟩
        exact p1 _ H2 g2 ((f1.ext e2 w2).set rz) e2.toPExt
      · exact p1.elim
    · exact p.elim
end
def iAdd : D → D → Option D
  | .int a, .int b => some (.int (a + b))
  | .str a, .str b => if a.length + b.length ≤ sizeLine then some (.str (a ++ b)) else none
  | _, _ => none
def iSub : D → D → Option D
  | .int a, .int b => some (.int (a - b))
  | _, _ => none
section
variable {X : Cx}
theorem iAdd_ok : OpC X (inplaceOp .Add) iAdd := by
  rintro d e res h pins s σ H x y v u Q I rx ry ⟨g, S, w, c1, c2, q⟩
  unfold iAdd at h
  split at h
  · cases h; cases c1; cases c2
    exact iop_add pins s σ H _ _ v u Q I rx ry ⟨_, _, rfl, rfl, scalar_fin q w rfl⟩
  · split at h
    · rename_i hz
      cases h; cases c1; cases c2
      refine iop_add_str pins s σ H _ _ v u Q I rx ry ⟨_, _, rfl, rfl, by rw [mk_len, mk_len]; exact hz, ?_⟩
      rw [mk_app]
      exact scalar_fin q w rfl
    · cases h
  · cases h
theorem iSub_ok : OpC X (inplaceOp .Sub) iSub := by
  rintro d e res h pins s σ H x y v u Q I rx ry ⟨g, S, w, c1, c2, q⟩
  unfold iSub at h
  split at h
  · cases h; cases c1; cases c2
    exact iop_sub pins s σ H _ _ v u Q I rx ry ⟨_, _, rfl, rfl, scalar_fin q w rfl⟩
  · cases h
end
end Rf

set_option Elab.async false
set_option linter.all false
set_option maxRecDepth 100000
/-! Rf, part 14: the written part: constants, tables; the head. -/
namespace Rf
open PySem L2 TL

/-! ### constants -/
def notInt : D → Bool
  | .int _ => false
  | _ => true
theorem notInt_v {k : Kx} {H : Hp} {g : G} : ∀ {d : D} {v : V}, notInt d = true → Rep k H g d v → ∀ i, v ≠ V.int i
  | .non, _, _, r, i => by cases (show _ = V.non from r); exact nofun
  | .bl b, _, _, r, i => by cases (show _ = V.bl b from r); exact nofun
  | .int _, _, h, _, _ => by cases h
  | .str x, _, _, r, i => by cases (show _ = V.str ⟨x.toArray⟩ from r); exact nofun
  | .tup _, _, _, ⟨a, _, e, _⟩, i => by subst e; exact nofun
  | .lst _, _, _, ⟨a, _, e, _⟩, i => by subst e; exact nofun
  | .obj n, _, _, ⟨_, e⟩, i => by subst e; exact nofun
  | .gl _, _, _, ⟨a, _, e⟩, i => by subst e; exact nofun
  | .ty n, _, _, r, i => by cases (show _ = V.ty n from r); exact nofun
  | .scr _, _, _, ⟨a, e, _⟩, i => by subst e; exact nofun
  | .edc, _, _, ⟨a, e, _⟩, i => by subst e; exact nofun
  | .ins _ _ _, _, _, ⟨a, _, _, _, e, _⟩, i => by subst e; exact nofun
theorem notInt_l {k : Kx} {H : Hp} {g : G} : ∀ {ds : List D} {vs : List V}, ds.any notInt = true → RepL k H g ds vs → ∃ v ∈ vs, ∀ i, v ≠ V.int i
  | [], _, h, _ => by cases h
  | d :: ds, _, h, ⟨v, r, e, h1, h2⟩ => by
    subst e
    rw [List.any_cons, Bool.or_eq_true] at h
    rcases h with h | h
    · exact ⟨v, List.mem_cons_self, notInt_v h h1⟩
    · obtain ⟨u, hu, q⟩ := notInt_l h h2
      exact ⟨u, List.mem_cons_of_mem _ hu, q⟩
mutual
def ckV (K : PySem.W.Frag) : D → Value → Bool
  | .non, .none => true
  | .bl b, .bool c => b == c
  | .int i, .int j _ => decide (i = j)
  | .str x, .str y _ => decide (y = ⟨x.toArray⟩)
  | .tup ds, .ref a => match K.lookup a with
    | some ⟨.type c, _, .seq its _, _⟩ => decide (c = "tuple") && (decide (its.size ≤ sizeLine) && (ckL K ds its.toList && ds.any notInt))
    | _ => false
  | _, _ => false
def ckL (K : PySem.W.Frag) : List D → List Value → Bool
  | [], [] => true
  | d :: ds, v :: vs => ckV K d v && ckL K ds vs
  | _, _ => false
end
mutual
theorem ckV_ok {k : Kx} : ∀ (d : D) (u : Value), ckV k.K d u = true → ∃ v, RelV v u ∧ ∀ H g, Rep k H g d v
  | .non, u, h => by cases u <;> first | exact ⟨.non, rfl, fun _ _ => rfl⟩ | cases h
  | .bl b, u, h => by
    cases u <;> first | cases h | skip
    rename_i c
    have e : b = c := by simpa [ckV] using h
    subst e
    exact ⟨.bl b, rfl, fun _ _ => rfl⟩
  | .int i, u, h => by
    cases u <;> first | cases h | skip
    rename_i j t
    have e : i = j := by simpa [ckV] using h
    subst e
    exact ⟨.int i, ⟨_, rfl⟩, fun _ _ => rfl⟩
  | .str x, u, h => by
    cases u <;> first | cases h | skip
    rename_i y t
    have e : y = ⟨x.toArray⟩ := by simpa [ckV] using h
    subst e
    exact ⟨.str ⟨x.toArray⟩, ⟨_, rfl⟩, fun _ _ => rfl⟩
  | .tup ds, u, h => by
    cases u <;> first | cases h | skip
    rename_i a
    unfold ckV at h
    split at h
    · rename_i c od its n sl q
      simp only [Bool.and_eq_true, decide_eq_true_eq] at h
      obtain ⟨rfl, hz, h, hn⟩ := h
      obtain ⟨vs, r, rr⟩ := ckL_ok ds its.toList h
      exact ⟨.ref a, rfl, fun H g => ⟨a, vs, rfl, .inr ⟨⟨_, its, n, q, rfl, rfl, hz, r⟩, notInt_l hn (rr H g)⟩, rr H g⟩⟩
    · cases h
  | .lst _, u, h => by cases u <;> cases h
  | .obj _, u, h => by cases u <;> cases h
  | .gl _, u, h => by cases u <;> cases h
  | .ty _, u, h => by cases u <;> cases h
  | .scr _, u, h => by cases u <;> cases h
  | .edc, u, h => by cases u <;> cases h
  | .ins _ _ _, u, h => by cases u <;> cases h
theorem ckL_ok {k : Kx} : ∀ (ds : List D) (us : List Value), ckL k.K ds us = true → ∃ vs, Vals vs us ∧ ∀ H g, RepL k H g ds vs
  | [], [], _ => ⟨[], .nil, fun _ _ => rfl⟩
  | [], _ :: _, h => by cases h
  | _ :: _, [], h => by cases h
  | d :: ds, u :: us, h => by
    have h' : ckV k.K d u = true ∧ ckL k.K ds us = true := by simpa [ckL] using h
    obtain ⟨v, r1, p1⟩ := ckV_ok d u h'.1
    obtain ⟨vs, r2, p2⟩ := ckL_ok ds us h'.2
    exact ⟨v :: vs, .cons r1 r2, fun H g => ⟨v, vs, rfl, p1 H g, p2 H g⟩⟩
end
/-- the module's name x is d -/
def ckG (K : PySem.W.Frag) (x : Str) (d : D) : Bool := match PySem.W.nsIn K mainGlobals x with
  | some (some u) => ckV K d u
  | _ => false
def ConAt (k : Kx) (x : Str) (d : D) : Prop := ∃ u v, k.mg x = some u ∧ RelV v u ∧ ∀ H g, Rep k H g d v
theorem ckG_ok {k : Kx} {h : Heap} (KX : k.K.In h) (G : h.Ns mainGlobals k.mg) {x : Str} {d : D} (c : ckG k.K x d = true) : ConAt k x d := by
  unfold ckG at c
  split at c
  · rename_i u e
    obtain ⟨v, r, p⟩ := ckV_ok (k := k) d u c
    exact ⟨u, v, PySem.W.mg_of KX G e, r, p⟩
  · cases c
section
variable {X : Cx} {W : WX} {x : Str} {p : Pos} {d : D}
theorem se_con (h : ConAt (k0 X.K X.mg) x d) (hg : Gl X x) (hd : (x == ("__debug__" : Str)) = false) : SE X W (.Name x p) (eC d) := by
  obtain ⟨u, v, hm, r, q⟩ := h
  exact se_const (pe_glob hg hm r hd) fun H g => Rep.kc (k := k0 X.K X.mg) (k' := kx X) rfl rfl _ _ (q H g)
end

/-! ### tables with text keys -/
abbrev Tb := List (List Nat × D)
def Tb.get (t : Tb) (z : List Nat) : Option D := (t.find? fun q => q.1 == z).map (·.2)
def keyD (e : DictEntry) : Option (List Nat) := match e.key with
  | .str x _ => some x.cps.toList
  | _ => none
def ckT (K : PySem.W.Frag) : Tb → List DictEntry → Bool
  | [], [] => true
  | q :: t, e :: es => (match e.key with
    | .str x _ => decide (x.cps.toList = q.1)
    | _ => false) && ckV K q.2 e.val && ckT K t es
  | _, _ => false
def ckTab (K : PySem.W.Frag) (x : Str) (t : Tb) : Bool := match PySem.W.nsIn K mainGlobals x with
  | some (some (.ref a)) => decide (a = He.ga K x) && (match K.lookup a with
    | some ⟨_, _, .dict es _, _⟩ => ckT K t es.toList
    | _ => false)
  | _ => false
/-- the module's name x is such a table -/
def TabK (w : World) (k : Kx) (x : Str) (t : Tb) : Prop := ∃ d es n, k.mg x = some (.ref d) ∧ KDict k.K w d es n ∧ ∀ z : Str, (Tb.get t z.cps.toList = none → PySem.W.nsIn k.K d z = some none) ∧
  ∀ r, Tb.get t z.cps.toList = some r → ∃ u v, PySem.W.nsIn k.K d z = some (some u) ∧ RelV v u ∧ ∀ H g, Rep k H g r v
abbrev TabAt (X : Cx) (x : Str) (t : Tb) : Prop := TabK X.w (k0 X.K X.mg) x t
theorem isStr_eq {x z : Str} {t : Nat} : (Value.str x t).isStr z = (x.cps.toList == z.cps.toList) := by
  show (x == z) = _
  rw [Bool.eq_iff_iff, beq_iff_eq, beq_iff_eq]
  constructor
  · rintro rfl; rfl
  · intro h
    cases x; cases z
    simpa using h
theorem ckT_find {k : Kx} {z : Str} : ∀ (t : Tb) (es : List DictEntry), ckT k.K t es = true → es.any (·.refKey) = false ∧
    (Tb.get t z.cps.toList = none → es.find? (·.key.isStr z) = none) ∧ ∀ r, Tb.get t z.cps.toList = some r → ∃ e v, es.find? (·.key.isStr z) = some e ∧ RelV v e.val ∧ ∀ H g, Rep k H g r v
  | [], [], _ => ⟨rfl, fun _ => rfl, fun r h => by cases h⟩
  | [], _ :: _, h => by cases h
  | _ :: _, [], h => by cases h
  | q :: t, e :: es, h => by
    have h' : (match e.key with
      | .str x _ => decide (x.cps.toList = q.1)
      | _ => false) = true ∧ ckV k.K q.2 e.val = true ∧ ckT k.K t es = true := by simpa [ckT, and_assoc] using h
    obtain ⟨h1, h2, h3⟩ := h'
    obtain ⟨a, b, c⟩ := ckT_find (z := z) t es h3
    split at h1
    · rename_i x tk ek
      have hx : x.cps.toList = q.1 := of_decide_eq_true h1
      have hk : e.key.isStr z = (q.1 == z.cps.toList) := by rw [ek, isStr_eq, hx]
      refine ⟨?_, fun g => ?_, fun r g => ?_⟩
      · rw [List.any_cons, a]
        simp [DictEntry.refKey, ek]
      · unfold Tb.get at g
        rw [List.find?_cons] at g
        rw [List.find?_cons, hk]
        cases y : q.1 == z.cps.toList with
        | true => rw [y] at g; cases g
        | false => rw [y] at g; exact b g
      · unfold Tb.get at g
        rw [List.find?_cons] at g
        rw [List.find?_cons, hk]
        cases y : q.1 == z.cps.toList with
        | true =>
          rw [y] at g
          cases g
          obtain ⟨v, r1, p1⟩ := ckV_ok (k := k) q.2 e.val h2
          exact ⟨e, v, rfl, r1, p1⟩
        | false => rw [y] at g; exact c r g
    · cases h1
theorem ckTab_ok {w : World} {k : Kx} {h : Heap} (KX : k.K.In h) (G : h.Ns mainGlobals k.mg) {x : Str} {t : Tb} (c : ckTab k.K x t = true) {es : Array DictEntry} {n : Nat} (kd : KDict k.K w (He.ga k.K x) es n) : TabK w k x t := by
  unfold ckTab at c
  split at c
  · rename_i a e
    rw [Bool.and_eq_true] at c
    obtain ⟨c1, c2⟩ := c
    have ea := of_decide_eq_true c1
    subst ea
    rw [kd.at_] at c2
    have c3 : ckT k.K t es.toList = true := c2
    refine ⟨_, es, n, PySem.W.mg_of KX G e, kd, fun z => ?_⟩
    obtain ⟨a1, a2, a3⟩ := ckT_find (k := k) (z := z) t es.toList c3
    have un : PySem.W.nsIn k.K (He.ga k.K x) z = (match es.toList.find? (·.key.isStr z) with
      | some e => some (some e.val)
      | none => if es.toList.any (·.refKey) then none else some none) := by
      unfold PySem.W.nsIn
      rw [kd.at_]
      rfl
    refine ⟨fun g => ?_, fun r g => ?_⟩
    · rw [un, a2 g, a1]; rfl
    · obtain ⟨e2, v, f, r1, r2⟩ := a3 r g
      exact ⟨e2.val, v, by rw [un, f], r1, r2⟩
  · cases c
section
variable {X : Cx} {W : WX} {x : Str} {e : Expr} {p pos : Pos} {t : Tb} {m : EM}
def eInT (neg : Bool) (t : Tb) (m : EM) : EM := fun L S => (m L S).bind fun d S1 => match d with
  | .str z => .ok (.bl (neg != (t.get z).isSome)) S1
  | _ => .no
def eIxT (t : Tb) (m : EM) : EM := fun L S => (m L S).bind fun d S1 => match d with
  | .str z => lift (t.get z) S1
  | _ => .no
theorem se_inT (T : TabAt X x t) (hg : Gl X x) (hd : (x == ("__debug__" : Str)) = false) (he : SE X W e m) : SE X W (.Compare e [.In] [.Name x p] pos) (eInT false t m) := by
  obtain ⟨d, es, n, hm, kd, T⟩ := T
  refine PE.imp (pe_cmpR (op_in_kd kd) he (pe_glob hg hm (v := .ref d) rfl hd) rfl) fun σ H Q ⟨L, S, g, l, w, q⟩ => ⟨L, S, g, l, w, Post.bind q fun dd S1 v H1 g1 e1 w1 r1 p1 => ?_⟩
  split at p1
  · rename_i z
    cases r1
    obtain ⟨T1, T2⟩ := T ⟨z.toArray⟩
    cases q : t.get z with
    | none =>
      rw [q] at p1
      exact ⟨_, _, rfl, rfl, T1 (by simpa using q), Post.ret p1 w1 rfl⟩
    | some r =>
      rw [q] at p1
      obtain ⟨u, v, h1, _⟩ := T2 r (by simpa using q)
      exact ⟨_, _, rfl, rfl, h1, Post.ret p1 w1 rfl⟩
  · exact p1.elim
theorem se_notInT (T : TabAt X x t) (hg : Gl X x) (hd : (x == ("__debug__" : Str)) = false) (he : SE X W e m) : SE X W (.Compare e [.NotIn] [.Name x p] pos) (eInT true t m) := by
  obtain ⟨d, es, n, hm, kd, T⟩ := T
  refine PE.imp (pe_cmpR (op_notIn_kd kd) he (pe_glob hg hm (v := .ref d) rfl hd) rfl) fun σ H Q ⟨L, S, g, l, w, q⟩ => ⟨L, S, g, l, w, Post.bind q fun dd S1 v H1 g1 e1 w1 r1 p1 => ?_⟩
  split at p1
  · rename_i z
    cases r1
    obtain ⟨T1, T2⟩ := T ⟨z.toArray⟩
    cases q : t.get z with
    | none =>
      rw [q] at p1
      exact ⟨_, _, rfl, rfl, T1 (by simpa using q), Post.ret p1 w1 rfl⟩
    | some r =>
      rw [q] at p1
      obtain ⟨u, v, h1, _⟩ := T2 r (by simpa using q)
      exact ⟨_, _, rfl, rfl, h1, Post.ret p1 w1 rfl⟩
  · exact p1.elim
end
end Rf

set_option Elab.async false
set_option linter.all false
set_option maxRecDepth 100000
/-! Rf, part 15: the head, the end. -/
namespace Rf
open PySem L2 TL

section
variable {X : Cx} {W : WX} {x : Str} {e : Expr} {p pos : Pos} {t : Tb} {m : EM}
theorem ix_tab {d : Addr} {es : Array DictEntry} {n : Nat} (kd : KDict X.K X.w d es n) : IxR X (fun x y H Q => ∃ (z : Str) (u0 : Value) (v0 : V), x = .ref d ∧ y = .str z ∧ PySem.W.nsIn X.K d z = some (some u0) ∧ RelV v0 u0 ∧ Q v0 H) := by
  intro value slice pins s σ H x y v u Q I rx ry h hs
  obtain ⟨z, u0, v0, rfl, rfl, q⟩ := h
  cases (show v = .ref d from rx)
  exact PyProof.Rows.tail_any (kd_type kd I) PySem.F.slot_dict_getitem.lookup (op_item_kd kd pins s σ H _ _ _ u Q I rx ry ⟨z, u0, v0, rfl, rfl, q⟩) hs
theorem se_ixT (T : TabAt X x t) (hg : Gl X x) (hd : (x == ("__debug__" : Str)) = false) (he : SE X W e m) (hn : notSlice e = true) : SE X W (.Subscript (.Name x p) e pos) (eIxT t m) := by
  obtain ⟨d, es, n, hm, kd, T⟩ := T
  refine PE.imp (pe_ix (ix_tab kd) (pe_glob hg hm (v := .ref d) rfl hd) he (not_slice hn)) fun σ H Q ⟨L, S, g, l, w, q⟩ => ⟨L, S, g, l, w, Post.bind q fun dd S1 v H1 g1 e1 w1 r1 p1 => ?_⟩
  split at p1
  · rename_i z
    cases r1
    obtain ⟨T1, T2⟩ := T ⟨z.toArray⟩
    cases q : t.get z with
    | none => rw [q] at p1; exact p1.elim
    | some r =>
      rw [q] at p1
      obtain ⟨u, v, h1, h2, h3⟩ := T2 r (by simpa using q)
      exact ⟨_, u, v, rfl, rfl, h1, h2, Post.ret p1 w1 (Rep.kc (k := k0 X.K X.mg) (k' := kx X) rfl rfl _ _ (h3 _ _))⟩
  · exact p1.elim
end

theorem st_inT {X : Cx} {W : WX} {x : Str} {e : Expr} {p pos : Pos} {t : Tb} {m : EM} (T : TabAt X x t) (hg : Gl X x) (hd : (x == ("__debug__" : Str)) = false) (he : SE X W e m) : ST X W (.Compare e [.In] [.Name x p] pos) (tOfE (eInT false t m)) := by
  obtain ⟨d, es, n, hm, kd, T⟩ := T
  refine PT.imp (pt_cmpR (op_in_kd kd) he (pe_glob hg hm (v := .ref d) rfl hd) rfl) fun σ H Q q => ?_
  obtain ⟨L, S, g, l, w, q⟩ := tt_of q
  refine ⟨L, S, g, l, w, Post.bind q fun dd S1 v H1 g1 e1 w1 r1 p1 => ?_⟩
  split at p1
  · rename_i z
    cases r1
    obtain ⟨T1, T2⟩ := T ⟨z.toArray⟩
    cases q : t.get z with
    | none =>
      rw [q] at p1
      exact ⟨_, _, rfl, rfl, T1 (by simpa using q), Post.ret p1 w1 rfl⟩
    | some r =>
      rw [q] at p1
      obtain ⟨u, v, h1, _⟩ := T2 r (by simpa using q)
      exact ⟨_, _, rfl, rfl, h1, Post.ret p1 w1 rfl⟩
  · exact p1.elim
theorem st_notInT {X : Cx} {W : WX} {x : Str} {e : Expr} {p pos : Pos} {t : Tb} {m : EM} (T : TabAt X x t) (hg : Gl X x) (hd : (x == ("__debug__" : Str)) = false) (he : SE X W e m) : ST X W (.Compare e [.NotIn] [.Name x p] pos) (tOfE (eInT true t m)) := by
  obtain ⟨d, es, n, hm, kd, T⟩ := T
  refine PT.imp (pt_cmpR (op_notIn_kd kd) he (pe_glob hg hm (v := .ref d) rfl hd) rfl) fun σ H Q q => ?_
  obtain ⟨L, S, g, l, w, q⟩ := tt_of q
  refine ⟨L, S, g, l, w, Post.bind q fun dd S1 v H1 g1 e1 w1 r1 p1 => ?_⟩
  split at p1
  · rename_i z
    cases r1
    obtain ⟨T1, T2⟩ := T ⟨z.toArray⟩
    cases q : t.get z with
    | none =>
      rw [q] at p1
      exact ⟨_, _, rfl, rfl, T1 (by simpa using q), Post.ret p1 w1 rfl⟩
    | some r =>
      rw [q] at p1
      obtain ⟨u, v, h1, _⟩ := T2 r (by simpa using q)
      exact ⟨_, _, rfl, rfl, h1, Post.ret p1 w1 rfl⟩
  · exact p1.elim
theorem takes_no {X : Cx} : Takes X WN := fun _ _ ⟨_, _, _, _, _, _, _, _, _, _, _, _, _, _, _, _, z⟩ => z.elim
theorem se_str {X : Cx} {W : WX} {x : Str} {j : Nat} {pos : Pos} {l : List Nat} (h : x = ⟨l.toArray⟩) : SE X W (.Constant (.str x) j pos) (eC (.str l)) := se_const pe_str fun _ _ => by rw [h] <;> rfl
theorem se_int {X : Cx} {W : WX} {x : Int} {j : Nat} {pos : Pos} : SE X W (.Constant (.int x) j pos) (eC (.int x)) := se_const pe_int fun _ _ => rfl
theorem se_bl {X : Cx} {W : WX} {x : Bool} {j : Nat} {pos : Pos} : SE X W (.Constant (.bool x) j pos) (eC (.bl x)) := se_const pe_bl fun _ _ => rfl
theorem se_non {X : Cx} {W : WX} {j : Nat} {pos : Pos} : SE X W (.Constant .none j pos) (eC .non) := se_const pe_non fun _ _ => rfl
theorem se_ty {X : Cx} {W : WX} {x : Str} {n : String} {pos : Pos} (hg : Gl X x) (hm : X.mg x = none) (hv : bootBuiltins x = some (.type n)) (hn : x ≠ "__name__") (hd : (x == ("__debug__" : Str)) = false) : SE X W (.Name x pos) (eC (.ty n)) :=
  se_const (pe_bltn hg hm hv (v := .ty n) rfl hn hd) fun _ _ => rfl
theorem ss_setS {X : Cx} {W : WX} {i : Nat} {x : Str} {e : Expr} {m : EM} {pos pos' : Pos} (hN : X.N.Nodup) (hi : X.N[i]? = some x) (hx : Loc X.env.scope x) (hf : X.fn x = true) (h : SE X W e m) (hs : swapsWith e (some (.Name x pos')) pos.line X.env = pure false) : SS X W (.Assign [.Name x pos'] e pos) (sSet i m) :=
  PS.imp (ps_set hN hi hx h hs (.inl hf)) fun D σ H q => set_read q
theorem ss_ownS {X : Cx} {W : WX} {i : Nat} {x : Str} {e : Expr} {m : Ls → Sto → R (List D)} {pos pos' : Pos} (hN : X.N.Nodup) (hi : X.N[i]? = some x) (hx : Loc X.env.scope x) (hf : X.fn x = true) (h : SF X W e m) (hs : swapsWith e (some (.Name x pos')) pos.line X.env = pure false) : SS X W (.Assign [.Name x pos'] e pos) (sOwn i m) :=
  PS.imp (ps_set hN hi hx h hs (.inl hf)) fun D σ H q => own_read q
def sNo : SM := fun _ _ => .no
theorem sb_no {X : Cx} {W : WX} {sts : List Stmt} : SB X W sts sNo := PSs.imp pss_never fun D σ H ⟨_, _, _, _, _, _, p⟩ => p.elim

/-! ### a def of the text, by name -/
def FnIn (P : Program) (w : World) (K : PySem.W.Frag) (mg : Str → Option Value) (base : Heap) (x : Str) (j : Nat) (c : Fn) : Prop :=
  ∃ (f : Addr) (fd : FuncData) (ps : List Str), FnOk P w K mg base (L2.CX P w) j f fd ps (spC (k0 K mg) c) ∧ mg x = some (.ref f) ∧ PySem.W.keepIn K (.ref f) = true ∧ Binds K fd ps []
theorem FnIn.at {P : Program} {w : World} {K : PySem.W.Frag} {mg : Str → Option Value} {base : Heap} {x : Str} {i j : Nat} {c : Fn} {X : Cx} (h : FnIn P w K mg base x j c) (hr : Room i X.A) (hl : j ≤ i)
    (h1 : X.prog = P) (h2 : X.w = w) (h3 : X.K = K) (h4 : X.mg = mg) (h5 : X.base = base) : FnAt X x c := by
  subst h1 h2 h3 h4 h5
  obtain ⟨f, fd, ps, F, hm, hk, hb⟩ := h
  exact ⟨j, f, fd, ps, F, hr.mono hl, hm, hk, hb⟩
/-- where a def stands -/
def DefAt (K : PySem.W.Frag) (mg : Str → Option Value) (x : Str) (st : Stmt) : Prop := ∃ (f : Addr) (fd : FuncData), FunD K x x (defArgs st) (defBody st) (defScope st) [] [] f fd ∧ mg x = some (.ref f)

/-! ### the head -/
def hookC (n : Nat) (fa : List He.Fa) (fn : List He.DefD) (ts : List He.Tab) (ck : PySem.W.Frag → Bool) : PySem.W.Hook where
  α := He.AlT × Bool
  obs := fun s => (He.obsTG n fa fn ts s.heap.get?, ck (He.frG s.heap.get? (He.asD s.heap.get? n)))
  val := fun w => (He.valT fn ts w, true)
  says := fun w h => ∃ K : PySem.W.Frag, K.In h ∧ He.SaysT fa fn ts w K ∧ ck K = true
  of := fun _ _ e => ⟨_, He.frG_in, congrArg (fun z : He.AlT × Bool => z.1) e, congrArg (fun z : He.AlT × Bool => z.2) e⟩
  keeps := fun _ _ _ ⟨K, hK, c⟩ k => ⟨K, PySem.W.Frag.In.keeps hK k, c⟩
def obC (n : Nat) (fa : List He.Fa) (fn : List He.DefD) (ts : List He.Tab) (ck : PySem.W.Frag → Bool) (g : Addr → Option Obj) : He.AlT × Bool := (He.obsTG n fa fn ts g, ck (He.frG g (He.asD g n)))
theorem obC_eq {n : Nat} {fa : List He.Fa} {fn : List He.DefD} {ts : List He.Tab} {ck : PySem.W.Frag → Bool} {g : Addr → Option Obj} {s : Shared} (h : ∀ a, g a = s.heap.get? a) : obC n fa fn ts ck g = (hookC n fa fn ts ck).obs s := by
  have e : g = s.heap.get? := funext h
  rw [e] <;> rfl
theorem def_at {fa : List He.Fa} {fn : List He.DefD} {K : PySem.W.Frag} {h : Heap} {mg : Str → Option Value} (X : K.In h) (G : h.Ns mainGlobals mg) (c : He.SaysD fa fn K) {x : Str} {st : Stmt}
    (h1 : (⟨(x, none), x, x, defArgs st, defBody st, defScope st, [], []⟩ : He.DefD) ∈ fn) (h2 : He.Fa.glo x ∈ fa) : DefAt K mg x st := by
  obtain ⟨fd, F⟩ := c.defs h1
  exact ⟨_, fd, F, He.glo_ok X G (c.facts h2)⟩
theorem free_at {fa : List He.Fa} {fn : List He.DefD} {K : PySem.W.Frag} {h : Heap} {mg : Str → Option Value} (X : K.In h) (G : h.Ns mainGlobals mg) (c : He.SaysD fa fn K) {x : Str} (h2 : He.Fa.free x ∈ fa) : mg x = none := He.free_ok X G (c.facts h2)

/-! ### the end -/
theorem law_end {k : Kx} {c : Fn} {ns : List Int} (h : ∃ S, c [.scr ns] [] = .ok (.bl true) S) {H : Hp} {a : Addr} (hl : Only H) (hs : SqL k.K H a (ns.map V.int)) : spC k c [.ref a] H (fun v _ => v = .bl true) (fun _ _ _ => False) := by
  obtain ⟨S, e⟩ := h
  refine ⟨[.scr ns], [], ⟨fun _ => False, fun _ => 0, 0⟩, ⟨_, [], rfl, ⟨a, rfl, ?_⟩, rfl⟩, ⟨rfl, fun i o h => by simp at h, fun i j h => absurd h (Nat.not_lt_zero _), fun i h => absurd h (Nat.not_lt_zero _), fun a h => h.elim⟩, ?_⟩
  · rcases hs with hs | hs
    · rcases hs with hs | ⟨o, hs⟩
      · rcases hl a with z | ⟨o, xs, z⟩
        · rw [hs] at z; cases z
        · rw [hs] at z; cases z
      · exact .inl ⟨o, hs⟩
    · exact .inr hs
  · rw [e]
    exact fun v H' g' e w r => r
theorem no_cx {P : Program} {w : World} (H : Hp) (s : Shared) (e : Value) (s' : Shared) (h : L2.CX P w [] H s (fun _ _ _ => False) e s') : False := by
  obtain ⟨_, _, _, _, _, _, _, _, _, _, _, _, h⟩ := h
  exact h
theorem rf_walk {l : PySem.W.OpenLaw} {n k : Nat} {q : Program} {loose : List Str} {XP : (Str → Option Value) → Heap → Prop} {YP : World → Heap → Prop} {d : DefRec} {x : Str} {c : Fn}
    (h1 : l.most = some n) (h2 : n ≤ sizeLine) (h3 : d.params.defaults = []) (h4 : Room k callerA)
    (h5 : ∀ (w : World) (mg : Str → Option Value) (f : Addr) (h : Heap), YP w h → h.Ns mainGlobals mg → mg d.name = some (.ref f) → ∃ (K : PySem.W.Frag) (fd : FuncData), K.In h ∧ (∀ (s : Shared) (u : Value), BindsTo s fd ⟨[u], []⟩ [(x, u)]) ∧
      ∀ base : Heap, FnOk l.prog w K mg base (L2.CX l.prog w) k f fd [x] (spC (k0 K mg) c))
    (law : ∀ ns : List Int, ns.length ≤ n → ∃ S, c [.scr ns] [] = .ok (.bl true) S) : PySem.W.WalkO q loose XP YP l.row.toRowW d [] (fun f vs => PySem.call f vs) := by
  refine Att.attach_call h1 h3 fun w _ s₁ mg _ f _ _ _ _ a vs ns G Y _ _ _ hmg hob hin hle hge => ?_
  obtain ⟨K, fd, KX, hb, hF⟩ := h5 w mg f _ Y G.T.g hmg
  exact law_call (sp := spC (k0 K mg) c) KX G.T.g G.T.b G.T.builtins G.T.nolimit hge hob hin (Nat.le_trans hle h2) h4 (fun base _ _ => hF base) hb
    (fun H hO hS => law_end (k := k0 K mg) (law ns hle) hO hS) fun H e s' => no_cx H s₁ e s'
end Rf

set_option Elab.async false
set_option linter.all false
set_option maxRecDepth 100000
set_option maxHeartbeats 0
/-! Rf, part 16: what is wanted of a shallow run; the deck. -/
namespace Rf
open PySem L2 TL

/-- what is wanted where an exception leaves -/
class ExP where
  E : Exn → Sto → Prop
@[reducible] instance (priority := 10) noXP : ExP := ⟨fun _ _ => False⟩
def wpP [xp : ExP] {α : Type} (r : R α) (P : α → Sto → Prop) : Prop := match r with
  | .ok a S => P a S
  | .ex x S => xp.E x S
  | .no => False
def wpsP [xp : ExP] (r : RS) (P : Fl → Ls → Sto → Prop) : Prop := match r with
  | .ok f L S => P f L S
  | .ex x _ S => xp.E x S
  | .no => False
/-- a structure, lest tactics look into it -/
structure WP (xp : ExP) {α : Type} (r : R α) (P : α → Sto → Prop) : Prop where
  out : wpP r P
abbrev wp [xp : ExP] {α : Type} (r : R α) (P : α → Sto → Prop) : Prop := WP xp r P
structure WPS (xp : ExP) (r : RS) (P : Fl → Ls → Sto → Prop) : Prop where
  out : wpsP r P
abbrev wps [xp : ExP] (r : RS) (P : Fl → Ls → Sto → Prop) : Prop := WPS xp r P
variable {xp : ExP}
theorem wp_eq {α : Type} {r : R α} {P : α → Sto → Prop} : wp r P = wpP r P := propext ⟨fun h => h.out, fun h => ⟨h⟩⟩
theorem wps_eq {r : RS} {P : Fl → Ls → Sto → Prop} : wps r P = wpsP r P := propext ⟨fun h => h.out, fun h => ⟨h⟩⟩
section
variable {α β : Type} {r : R α} {P Q : α → Sto → Prop} {S : Sto} {L : Ls}
theorem wp_ok {a : α} : wp (.ok a S) P = P a S := wp_eq
theorem wp_bind {f : α → Sto → R β} {P : β → Sto → Prop} : wp (r.bind f) P = wp r fun a S => wp (f a S) P := by
  rw [wp_eq, wp_eq]
  cases r with
  | ok a S => exact wp_eq.symm
  | _ => rfl
theorem wps_st {f : α → Sto → RS} {P : Fl → Ls → Sto → Prop} : wps (r.st L f) P = wp r fun a S => wps (f a S) P := by
  rw [wps_eq, wp_eq]
  cases r with
  | ok a S => exact wps_eq.symm
  | _ => rfl
theorem wps_seq {r : RS} {f : Ls → Sto → RS} {P : Fl → Ls → Sto → Prop} : wps (r.seq f) P = wps r fun fl L S => match fl with
    | .nx => wps (f L S) P
    | fl => P fl L S := by
  rw [wps_eq, wps_eq]
  cases r with
  | ok fl L S =>
    cases fl with
    | nx => exact wps_eq.symm
    | _ => rfl
  | _ => rfl
theorem wp.mono (h : wp r P) (i : ∀ a S, P a S → Q a S) : wp r Q := by cases r with | ok a S => exact ⟨i a S h.out⟩ | ex x S => exact ⟨h.out⟩ | no => exact h.out.elim
theorem wp.ex (h : @wp noXP α r P) : ∃ a S, r = .ok a S ∧ P a S := by cases r with | ok a S => exact ⟨a, S, rfl, h.out⟩ | _ => exact h.out.elim
theorem wp.of {a : α} (e : r = .ok a S) (h : P a S) : wp r P := by rw [e]; exact ⟨h⟩
theorem wps.mono {r : RS} {P Q : Fl → Ls → Sto → Prop} (h : wps r P) (i : ∀ a L S, P a L S → Q a L S) : wps r Q := by cases r with | ok a L S => exact ⟨i a L S h.out⟩ | ex x L S => exact ⟨h.out⟩ | no => exact h.out.elim
/-- where no exception leaves, any wish will do -/
theorem wp.up (h : @wp noXP α r P) : wp r P := by cases r with | ok a S => exact ⟨h.out⟩ | ex x S => exact h.out.elim | no => exact h.out.elim
theorem wps.up {r : RS} {P : Fl → Ls → Sto → Prop} (h : @wps noXP r P) : wps r P := by cases r with | ok a L S => exact ⟨h.out⟩ | ex x L S => exact h.out.elim | no => exact h.out.elim
theorem wp_end {r : RS} {P : D → Sto → Prop} (h : wps r fun fl _ S => match fl with
    | .nx => P .non S
    | .rt d => P d S
    | _ => False) : wp (endR r) P := by
  cases r with
  | ok fl L S => cases fl <;> exact ⟨h.out⟩
  | ex x L S => exact ⟨h.out⟩
  | no => exact h.out.elim
end

/-- the law's deck at the store's first two places, n draws to come -/
def Deck (T : Sto) (n : Nat) (S : Sto) : Prop := ∃ (cs : List Int) (c : Int), S = .lst (cs.map .int) :: .lst [.obj 0, .int c] :: T ∧ (∀ x ∈ cs, 0 ≤ x) ∧ 0 ≤ c ∧ c + n ≤ 2 ^ 40 ∧ cs.length ≤ 63
theorem Deck.le {T S : Sto} {n m : Nat} (h : Deck T n S) (e : m ≤ n) : Deck T m S := by
  obtain ⟨cs, c, h1, h2, h3, h4, h5⟩ := h
  exact ⟨cs, c, h1, h2, h3, by omega, h5⟩
noncomputable def m_deck : SM := sSeq (sRet (eNw (fLst (aCons (eNw (fLc (iVal (eSl (pVar 0) (oNo) (oSo (eC (.int 63))))) [1] (.nm 1) (tYs) (eCall bAbs (aCons (pVar 1) (aNil))))) (aCons (eC (.int 0)) (aNil)))))) (sNil)
theorem wp_lc {all : List D} {t : Tg} {tt : Ls → Sto → R Bool} {te : EM} {Lw : Ls} {P : List D → Sto → Prop} (I : List D → Sto → List D → Prop)
    (step : ∀ d ds S acc, I (d :: ds) S acc → ∃ L1, tgA t d Lw = some L1 ∧ @wp noXP _ (tt L1 S) fun b S1 => if b = true then @wp noXP _ (te L1 S1) fun y S2 => acc.length < sizeLine ∧ I ds S2 (acc ++ [y]) else I ds S1 acc)
    (done : ∀ S acc, I [] S acc → P acc S) : ∀ (ds : List D) (S : Sto) (acc : List D), I ds S acc → wp (lcLoop none all t tt te Lw ds S acc) P
  | [], S, acc, h => ⟨done S acc h⟩
  | d :: ds, S, acc, h => by
    obtain ⟨L1, e, h⟩ := step d ds S acc h
    rw [lcLoop, ckd, e]
    dsimp only
    cases q : tt L1 S with
    | no => rw [q] at h; exact h.out.elim
    | ex x S1 => rw [q] at h; exact h.out.elim
    | ok b S1 =>
      rw [q] at h
      have h' : if b = true then @wp noXP _ (te L1 S1) (fun y S2 => acc.length < sizeLine ∧ I ds S2 (acc ++ [y])) else I ds S1 acc := h.out
      dsimp only [R.nox, R.bind]
      by_cases hb : b = true
      · rw [if_pos hb] at h' ⊢
        cases q2 : te L1 S1 with
        | no => rw [q2] at h'; exact h'.out.elim
        | ex x S2 => rw [q2] at h'; exact h'.out.elim
        | ok y S2 =>
          rw [q2] at h'
          obtain ⟨hz, h'⟩ := h'.out
          dsimp only
          rw [if_pos hz]
          exact wp_lc I step done ds S2 _ h'
      · rw [if_neg hb] at h' ⊢
        exact wp_lc I step done ds S1 acc h'
theorem lc_map {all : List D} {t : Tg} {tt : Ls → Sto → R Bool} {te : EM} {Lw : Ls} {S : Sto} (f : D → D) : ∀ (ds acc : List D), (∀ d ∈ ds, ∃ L1, tgA t d Lw = some L1 ∧ tt L1 S = .ok true S ∧ te L1 S = .ok (f d) S) → acc.length + ds.length ≤ sizeLine →
    lcLoop none all t tt te Lw ds S acc = .ok (acc ++ ds.map f) S
  | [], acc, _, _ => by rw [lcLoop, ckd, List.map_nil, List.append_nil]
  | d :: ds, acc, h, hz => by
    obtain ⟨L1, e1, e2, e3⟩ := h d List.mem_cons_self
    rw [List.length_cons] at hz
    rw [lcLoop, ckd, e1]
    dsimp only
    rw [e2]
    dsimp only [R.nox, R.bind]
    rw [if_pos rfl, e3]
    dsimp only
    rw [if_pos (by omega), lc_map f ds (acc ++ [f d]) (fun x hx => h x (List.mem_cons_of_mem _ hx)) (by rw [List.length_append, List.length_singleton]; omega), List.map_cons, List.append_assoc, List.singleton_append]
theorem wps_for {all : List D} {t : Tg} {b : SM} {P : Fl → Ls → Sto → Prop} (I : List D → Ls → Sto → Prop)
    (step : ∀ d ds L S, I (d :: ds) L S → ∃ L1, tgA t d L = some L1 ∧ wps (b L1 S) fun fl L2 S2 => match fl with
      | .nx => I ds L2 S2
      | .ct => I ds L2 S2
      | .bk => P .nx L2 S2
      | fl => P fl L2 S2)
    (done : ∀ L S, I [] L S → P .nx L S) : ∀ (ds : List D) (L : Ls) (S : Sto), I ds L S → wps (forL none all t b ds L S) P
  | [], L, S, h => ⟨done L S h⟩
  | d :: ds, L, S, h => by
    obtain ⟨L1, e, h⟩ := step d ds L S h
    rw [forL, ckS, e]
    dsimp only
    cases q : b L1 S with
    | no => rw [q] at h; exact h.out.elim
    | ex x L2 S2 => rw [q] at h; exact ⟨h.out⟩
    | ok fl L2 S2 =>
      rw [q] at h
      cases fl with
      | nx => exact wps_for I step done ds L2 S2 h.out
      | ct => exact wps_for I step done ds L2 S2 h.out
      | bk => exact ⟨h.out⟩
      | rt d => exact ⟨h.out⟩
noncomputable def c_deck : Fn := fnSem 2 1 m_deck
theorem deck_new {ns : List Int} (h : ns.length ≤ 63) {n : Nat} (hn : n ≤ 2 ^ 40) : ∃ S, c_deck [.scr ns] [] = .ok (.obj 1) S ∧ Deck [] n S := by
  have e : cutD (ns.map D.int) none (some 63) = ns.map .int := by
    unfold cutD
    have h1 : HT.sIx (ns.map D.int).length 0 none = 0 := rfl
    have h2 : HT.sIx (ns.map D.int).length (ns.map D.int).length (some 63) = (ns.map D.int).length := by
      rw [List.length_map]
      unfold HT.sIx
      simp
      omega
    rw [h1, h2, List.drop_zero, Nat.sub_zero, List.take_length]
  refine ⟨[.lst ((ns.map fun i => if i < 0 then -i else i).map .int), .lst [.obj 0, .int 0]], ?_, ⟨_, 0, rfl, fun x hx => ?_, Int.le_refl _, by omega, by rw [List.length_map]; exact h⟩⟩
  · have key : lcLoop none (ns.map D.int) (.nm 1) tYs (eCall bAbs (aCons (pVar 1) aNil)) [.v (.scr ns), .un] (ns.map .int) [] [] = .ok ((ns.map fun i => if i < 0 then -i else i).map .int) [] := by
      rw [lc_map (fun d => match d with | .int i => .int (if i < 0 then -i else i) | d => d) (ns.map .int) [] ?_ ?_]
      · rw [List.nil_append, List.map_map, List.map_map]
        rfl
      · intro d hd
        obtain ⟨i, _, rfl⟩ := List.mem_map.mp hd
        exact ⟨_, rfl, rfl, rfl⟩
      · rw [List.length_map, List.length_nil]
        have : (63 : Nat) ≤ sizeLine := by decide
        omega
    have k1 : fLc (iVal (eSl (pVar 0) oNo (oSo (eC (.int 63))))) [1] (.nm 1) tYs (eCall bAbs (aCons (pVar 1) aNil)) [.v (.scr ns), .un] [] = .ok ((ns.map fun i => if i < 0 then -i else i).map .int) [] := by
      show lcLoop none (cutD (ns.map D.int) none (some 63)) (.nm 1) tYs (eCall bAbs (aCons (pVar 1) aNil)) [.v (.scr ns), .un] (cutD (ns.map D.int) none (some 63)) [] [] = _
      rw [e]
      exact key
    have k2 : ∀ (x : Ls → Sto → R (List D)) (L : Ls) (l : List D), x L [] = .ok l [] → endR (sSeq (sRet (eNw (fLst (aCons (eNw x) (aCons (eC (.int 0)) aNil))))) sNil L []) = .ok (.obj 1) [.lst l, .lst [.obj 0, .int 0]] := by
      intro x L l hx
      simp only [sSeq, sRet, eNw, fLst, aCons, hx, aNil, eC]
      rfl
    exact k2 _ _ _ k1
  · obtain ⟨i, _, rfl⟩ := List.mem_map.mp hx
    show 0 ≤ if i < 0 then -i else i
    split <;> omega
/-! ### the rules of the walk -/
section
variable {P : D → Sto → Prop} {PL : List D → Sto → Prop} {PB : Bool → Sto → Prop} {PO : Option Int → Sto → Prop} {PS : Fl → Ls → Sto → Prop} {PR : Src → Sto → Prop} {L : Ls} {S : Sto} {i j l : Nat} {d : D} {ds : List D} {a b c m : EM} {ma mr : Ls → Sto → R (List D)} {ta tb : Ls → Sto → R Bool} {sa sb : SM}
theorem r_lift {α : Type} {o : Option α} {Q : α → Sto → Prop} (h : ∃ z, o = some z ∧ Q z S) : wp (lift o S) Q := by obtain ⟨z, rfl, h⟩ := h; exact ⟨h⟩
theorem r_eVar (h : L[i]? = some (.v d)) (k : P d S) : wp (eVar i L S) P := by unfold eVar; rw [h]; exact ⟨k⟩
theorem r_pVar (h : L[i]? = some (.v d)) (k : P d S) : wp (pVar i L S) P := by unfold pVar; rw [h]; exact ⟨k⟩
theorem r_pOwn (h : L[i]? = some (.o (.lst ds))) (k : P (.lst ds) S) : wp (pVar i L S) P := by unfold pVar; rw [h]; exact ⟨k⟩
theorem r_ok (k : P d S) : wp (.ok d S) P := ⟨k⟩
theorem r_okL (k : PL ds S) : wp (.ok ds S) PL := ⟨k⟩
theorem r_eC (k : P d S) : wp (eC d L S) P := ⟨k⟩
theorem r_eBin {o : D → D → Option D} (h : wp (a L S) fun x S1 => wp (b L S1) fun y S2 => ∃ z, o (deref S2 x) (deref S2 y) = some z ∧ P z S2) : wp (eBin o a b L S) P := by
  unfold eBin; rw [wp_bind]; refine h.mono fun x S1 h => ?_; rw [wp_bind]; exact h.mono fun y S2 h => r_lift h
theorem r_eCh {o o' : D → D → Option D} (h : wp (a L S) fun x S1 => wp (b L S1) fun y S2 => ∃ t, o (deref S2 x) (deref S2 y) = some (.bl t) ∧ (t = true → wp (c L S2) fun z S3 => ∃ w, o' (deref S3 y) (deref S3 z) = some w ∧ P w S3) ∧ (t = false → P (.bl false) S2)) : wp (eCh o o' a b c L S) P := by
  unfold eCh; rw [wp_bind]; refine h.mono fun x S1 h => ?_; rw [wp_bind]; refine h.mono fun y S2 ⟨t, e, h1, h2⟩ => ?_
  rw [e]
  cases t with
  | true => show wp (R.bind _ _) P; rw [wp_bind]; exact (h1 rfl).mono fun z S3 h => r_lift h
  | false => first | exact h2 rfl | exact ⟨h2 rfl⟩ | exact (h2 rfl).mono fun _ _ k => ⟨k⟩
theorem r_eAn (h : wp (a L S) fun d S1 => ∃ t, d = .bl t ∧ (t = true → wp (b L S1) P) ∧ (t = false → P (.bl false) S1)) : wp (eAn a b L S) P := by
  unfold eAn; rw [wp_bind]; refine h.mono fun d S1 ⟨t, e, h1, h2⟩ => ?_
  subst e; cases t with
  | true => first | exact h1 rfl | exact ⟨h1 rfl⟩ | exact (h1 rfl).mono fun _ _ k => ⟨k⟩
  | false => first | exact h2 rfl | exact ⟨h2 rfl⟩ | exact (h2 rfl).mono fun _ _ k => ⟨k⟩
theorem r_eOo (h : wp (a L S) fun d S1 => ∃ t, d = .bl t ∧ (t = true → P (.bl true) S1) ∧ (t = false → wp (b L S1) P)) : wp (eOo a b L S) P := by
  unfold eOo; rw [wp_bind]; refine h.mono fun d S1 ⟨t, e, h1, h2⟩ => ?_
  subst e; cases t with
  | true => first | exact h1 rfl | exact ⟨h1 rfl⟩ | exact (h1 rfl).mono fun _ _ k => ⟨k⟩
  | false => first | exact h2 rfl | exact ⟨h2 rfl⟩ | exact (h2 rfl).mono fun _ _ k => ⟨k⟩
theorem r_eNt (h : wp (a L S) fun d S1 => ∃ t, d = .bl t ∧ P (.bl (!t)) S1) : wp (eNt a L S) P := by
  unfold eNt; rw [wp_bind]; refine h.mono fun d S1 ⟨t, e, h1⟩ => ?_
  subst e; first | exact h1 | exact ⟨h1⟩ | exact (h1).mono fun _ _ k => ⟨k⟩
theorem r_eIf (h : wp (ta L S) fun t S1 => (t = true → wp (a L S1) P) ∧ (t = false → wp (b L S1) P)) : wp (eIf ta a b L S) P := by
  unfold eIf; rw [wp_bind]; refine h.mono fun t S1 ⟨h1, h2⟩ => ?_
  cases t with
  | true => first | exact h1 rfl | exact ⟨h1 rfl⟩ | exact (h1 rfl).mono fun _ _ k => ⟨k⟩
  | false => first | exact h2 rfl | exact ⟨h2 rfl⟩ | exact (h2 rfl).mono fun _ _ k => ⟨k⟩
theorem r_eNeg (h : wp (a L S) fun d S1 => ∃ n, d = .int n ∧ P (.int (-n)) S1) : wp (eNeg a L S) P := by
  unfold eNeg; rw [wp_bind]; refine h.mono fun d S1 ⟨t, e, h1⟩ => ?_
  subst e; first | exact h1 | exact ⟨h1⟩ | exact (h1).mono fun _ _ k => ⟨k⟩
theorem r_aNil (k : PL [] S) : wp (aNil L S) PL := ⟨k⟩
theorem r_aCons (h : wp (m L S) fun d S1 => wp (mr L S1) fun ds S2 => PL (d :: ds) S2) : wp (aCons m mr L S) PL := by
  unfold aCons; rw [wp_bind]; refine h.mono fun x S1 h => ?_; rw [wp_bind]; first | exact h | exact ⟨h⟩ | exact (h).mono fun _ _ k => ⟨k⟩
theorem r_eTup (h : wp (ma L S) fun ds S1 => ds.length ≤ sizeLine ∧ P (.tup ds) S1) : wp (eTup ma L S) P := by
  unfold eTup; rw [wp_bind]; refine h.mono fun x S1 ⟨h1, h2⟩ => ?_; rw [if_pos h1]; first | exact h2 | exact ⟨h2⟩ | exact (h2).mono fun _ _ k => ⟨k⟩
theorem r_fLst (h : wp (ma L S) fun ds S1 => ds.length ≤ sizeLine ∧ PL ds S1) : wp (fLst ma L S) PL := by
  unfold fLst; rw [wp_bind]; refine h.mono fun x S1 ⟨h1, h2⟩ => ?_; rw [if_pos h1]; first | exact h2 | exact ⟨h2⟩ | exact (h2).mono fun _ _ k => ⟨k⟩
theorem r_eFz (h : wp (ma L S) fun ds S1 => P (.lst ds) S1) : wp (eFz ma L S) P := by
  unfold eFz; rw [wp_bind]; first | exact h | exact ⟨h⟩ | exact (h).mono fun _ _ k => ⟨k⟩
theorem r_eNw (h : wp (ma L S) fun ds S1 => P (.obj S1.length) (S1 ++ [.lst ds])) : wp (eNw ma L S) P := by
  unfold eNw; rw [wp_bind]; first | exact h | exact ⟨h⟩ | exact (h).mono fun _ _ k => ⟨k⟩
theorem r_eCall {o : List D → Option D} (h : wp (ma L S) fun ds S1 => ∃ z, o (ds.map (deref S1)) = some z ∧ P z S1) : wp (eCall o ma L S) P := by
  unfold eCall; rw [wp_bind]; exact h.mono fun ds S1 h => r_lift h
theorem r_fCall {o : List D → Option (List D)} (h : wp (ma L S) fun ds S1 => ∃ z, o (ds.map (deref S1)) = some z ∧ PL z S1) : wp (fCall o ma L S) PL := by
  unfold fCall; rw [wp_bind]; exact h.mono fun ds S1 h => r_lift h
theorem r_eFn {f : Fn} (h : wp (ma L S) fun ds S1 => wp (f ds S1) P) : wp (eFn f ma L S) P := by
  unfold eFn; rw [wp_bind]; first | exact h | exact ⟨h⟩ | exact (h).mono fun _ _ k => ⟨k⟩
theorem r_eM1 {o : List Nat → D → Option D} (h : wp (a L S) fun d S1 => ∃ x, d = .str x ∧ wp (b L S1) fun e S2 => ∃ z, o x (deref S2 e) = some z ∧ P z S2) : wp (eM1 o a b L S) P := by
  unfold eM1; rw [wp_bind]; refine h.mono fun d S1 ⟨t, e, h1⟩ => ?_
  subst e; dsimp only; rw [wp_bind]; exact h1.mono fun _ _ h => r_lift h
theorem r_eM0 {o : D → Option D} (h : wp (a L S) fun d S1 => ∃ z, o d = some z ∧ P z S1) : wp (eM0 o a L S) P := by
  unfold eM0; rw [wp_bind]; exact h.mono fun _ _ h => r_lift h
theorem r_oNo (k : PO none S) : wp (oNo L S) PO := ⟨k⟩
theorem r_oSo (h : wp (m L S) fun d S1 => ∃ n, d = .int n ∧ PO (some n) S1) : wp (oSo m L S) PO := by
  unfold oSo; rw [wp_bind]; refine h.mono fun d S1 ⟨t, e, h1⟩ => ?_
  subst e; first | exact h1 | exact ⟨h1⟩ | exact (h1).mono fun _ _ k => ⟨k⟩
theorem r_eSl {ml mh : Ls → Sto → R (Option Int)} (h : wp (a L S) fun d S1 => wp (ml L S1) fun lo S2 => wp (mh L S2) fun hi S3 => ∃ z, oSl (deref S3 d) lo hi = some z ∧ P z S3) : wp (eSl a ml mh L S) P := by
  unfold eSl; rw [wp_bind]; refine h.mono fun x S1 h => ?_; rw [wp_bind]; refine h.mono fun y S2 h => ?_; rw [wp_bind]; exact h.mono fun _ _ h => r_lift h
theorem r_eInT {ng : Bool} {t : Tb} (h : wp (m L S) fun d S1 => ∃ z, d = .str z ∧ P (.bl (ng != (t.get z).isSome)) S1) : wp (eInT ng t m L S) P := by
  unfold eInT; rw [wp_bind]; refine h.mono fun d S1 ⟨t, e, h1⟩ => ?_
  subst e; first | exact h1 | exact ⟨h1⟩ | exact (h1).mono fun _ _ k => ⟨k⟩
theorem r_eIxT {t : Tb} (h : wp (m L S) fun d S1 => ∃ z, d = .str z ∧ ∃ r, t.get z = some r ∧ P r S1) : wp (eIxT t m L S) P := by
  unfold eIxT; rw [wp_bind]; refine h.mono fun d S1 ⟨t, e, h1⟩ => ?_
  subst e; exact r_lift h1
theorem r_tOfE (h : wp (m L S) fun d S1 => ∃ t, d = .bl t ∧ PB t S1) : wp (tOfE m L S) PB := by
  unfold tOfE; rw [wp_bind]; refine h.mono fun d S1 ⟨t, e, h1⟩ => ?_
  subst e; first | exact h1 | exact ⟨h1⟩ | exact (h1).mono fun _ _ k => ⟨k⟩
theorem r_tTr (h : wp (m L S) fun d S1 => ∃ t, truth (deref S1 d) = some t ∧ PB t S1) : wp (tTr m L S) PB := by
  unfold tTr; rw [wp_bind]; exact h.mono fun _ _ h => r_lift h
theorem r_tNt (h : wp (ta L S) fun t S1 => PB (!t) S1) : wp (tNt ta L S) PB := by
  unfold tNt; rw [wp_bind]; first | exact h | exact ⟨h⟩ | exact (h).mono fun _ _ k => ⟨k⟩
theorem r_tAn (h : wp (ta L S) fun t S1 => (t = true → wp (tb L S1) PB) ∧ (t = false → PB false S1)) : wp (tAn ta tb L S) PB := by
  unfold tAn; rw [wp_bind]; refine h.mono fun t S1 ⟨h1, h2⟩ => ?_
  cases t with
  | true => first | exact h1 rfl | exact ⟨h1 rfl⟩ | exact (h1 rfl).mono fun _ _ k => ⟨k⟩
  | false => first | exact h2 rfl | exact ⟨h2 rfl⟩ | exact (h2 rfl).mono fun _ _ k => ⟨k⟩
theorem r_tOo (h : wp (ta L S) fun t S1 => (t = true → PB true S1) ∧ (t = false → wp (tb L S1) PB)) : wp (tOo ta tb L S) PB := by
  unfold tOo; rw [wp_bind]; refine h.mono fun t S1 ⟨h1, h2⟩ => ?_
  cases t with
  | true => first | exact h1 rfl | exact ⟨h1 rfl⟩ | exact (h1 rfl).mono fun _ _ k => ⟨k⟩
  | false => first | exact h2 rfl | exact ⟨h2 rfl⟩ | exact (h2 rfl).mono fun _ _ k => ⟨k⟩
theorem r_tYs (k : PB true S) : wp (tYs L S) PB := ⟨k⟩
theorem r_iVal (h : wp (m L S) fun d S1 => ∃ s, srcOf S1 d = some s ∧ PR s S1) : wp (iVal m L S) PR := by
  unfold iVal; rw [wp_bind]; exact h.mono fun _ _ h => r_lift h
theorem r_iArgs {o : List D → Option Src} (h : wp (ma L S) fun ds S1 => ∃ s, o ds = some s ∧ PR s S1) : wp (iArgs o ma L S) PR := by
  unfold iArgs; rw [wp_bind]; exact h.mono fun _ _ h => r_lift h
theorem r_fLc {mi : Ls → Sto → R Src} {own : List Nat} {t : Tg} (h : wp (mi L S) fun src S1 => wp (lcLoop src.2 src.1 t ta m (wipeL L own) src.1 S1 []) PL) : wp (fLc mi own t ta m L S) PL := by
  unfold fLc; rw [wp_bind]; first | exact h | exact ⟨h⟩ | exact (h).mono fun _ _ k => ⟨k⟩
theorem q_nil (k : PS .nx L S) : wps (sNil L S) PS := ⟨k⟩
theorem q_brk (k : PS .bk L S) : wps (sBrk L S) PS := ⟨k⟩
theorem q_cnt (k : PS .ct L S) : wps (sCnt L S) PS := ⟨k⟩
theorem q_retN (k : PS (.rt .non) L S) : wps (sRetN L S) PS := ⟨k⟩
theorem q_seq (h : wps (sa L S) fun fl L1 S1 => match fl with
    | .nx => wps (sb L1 S1) PS
    | fl => PS fl L1 S1) : wps (sSeq sa sb L S) PS := by unfold sSeq; rw [wps_seq]; first | exact h | exact ⟨h⟩ | exact (h).mono fun _ _ k => ⟨k⟩
theorem q_ret (h : wp (m L S) fun d S1 => PS (.rt d) L S1) : wps (sRet m L S) PS := by unfold sRet; rw [wps_st]; first | exact h | exact ⟨h⟩ | exact (h).mono fun _ _ k => ⟨k⟩
theorem q_drop (h : wp (m L S) fun d S1 => PS .nx L S1) : wps (sDrop m L S) PS := by unfold sDrop; rw [wps_st]; first | exact h | exact ⟨h⟩ | exact (h).mono fun _ _ k => ⟨k⟩
theorem q_set (h : wp (m L S) fun d S1 => PS .nx (L.set i (.v d)) S1) : wps (sSet i m L S) PS := by unfold sSet; rw [wps_st]; first | exact h | exact ⟨h⟩ | exact (h).mono fun _ _ k => ⟨k⟩
theorem q_own (h : wp (ma L S) fun ds S1 => PS .nx (L.set i (.o (.lst ds))) S1) : wps (sOwn i ma L S) PS := by unfold sOwn; rw [wps_st]; first | exact h | exact ⟨h⟩ | exact (h).mono fun _ _ k => ⟨k⟩
theorem q_frz (h : L[i]? = some (.o (.lst ds))) (k : wps (sa (L.set i (.v (.lst ds))) S) PS) : wps (sFrz i sa L S) PS := by unfold sFrz; rw [h]; first | exact k | exact ⟨k⟩ | exact (k).mono fun _ _ k => ⟨k⟩
theorem q_frzV (h : L[i]? = some (.v d)) (k : wps (sa L S) PS) : wps (sFrz i sa L S) PS := by unfold sFrz; rw [h]; first | exact k | exact ⟨k⟩ | exact (k).mono fun _ _ k => ⟨k⟩
theorem q_tg {t : Tg} (h : wp (m L S) fun d S1 => ∃ L1, tgA t d L = some L1 ∧ PS .nx L1 S1) : wps (sTg t m L S) PS := by
  unfold sTg; rw [wps_st]; refine h.mono fun d S1 ⟨L1, e, h⟩ => ?_; rw [e]; first | exact h | exact ⟨h⟩ | exact (h).mono fun _ _ k => ⟨k⟩
theorem q_par2 (h : wp (ma L S) fun ds S1 => ∃ x y, ds = [x, y] ∧ PS .nx ((L.set i (.v x)).set j (.v y)) S1) : wps (sPar2 i j ma L S) PS := by
  unfold sPar2; rw [wps_st]; refine h.mono fun d S1 ⟨x, y, e, h⟩ => ?_; subst e; first | exact h | exact ⟨h⟩ | exact (h).mono fun _ _ k => ⟨k⟩
theorem q_par3 (h : wp (ma L S) fun ds S1 => ∃ x y z, ds = [x, y, z] ∧ PS .nx (((L.set i (.v x)).set j (.v y)).set l (.v z)) S1) : wps (sPar3 i j l ma L S) PS := by
  unfold sPar3; rw [wps_st]; refine h.mono fun d S1 ⟨x, y, z, e, h⟩ => ?_; subst e; first | exact h | exact ⟨h⟩ | exact (h).mono fun _ _ k => ⟨k⟩
theorem q_if (h : wp (ta L S) fun t S1 => (t = true → wps (sa L S1) PS) ∧ (t = false → wps (sb L S1) PS)) : wps (sIf ta sa sb L S) PS := by
  unfold sIf; rw [wps_st]; refine h.mono fun t S1 ⟨h1, h2⟩ => ?_
  cases t with
  | true => first | exact h1 rfl | exact ⟨h1 rfl⟩ | exact (h1 rfl).mono fun _ _ k => ⟨k⟩
  | false => first | exact h2 rfl | exact ⟨h2 rfl⟩ | exact (h2 rfl).mono fun _ _ k => ⟨k⟩
theorem q_app (h : L[i]? = some (.o (.lst ds))) (k : wp (m L S) fun d S1 => ds.length < sizeLine ∧ PS .nx (L.set i (.o (.lst (ds ++ [d])))) S1) : wps (sApp i m L S) PS := by
  unfold sApp; rw [h]; dsimp only; rw [wps_st]; refine k.mono fun d S1 ⟨h1, h2⟩ => ?_; rw [if_pos h1]; first | exact h2 | exact ⟨h2⟩ | exact (h2).mono fun _ _ k => ⟨k⟩
theorem q_putO (h : wp (c L S) fun d S1 => wp (a L S1) fun o S2 => ∃ n, o = .obj n ∧ wp (b L S2) fun j S3 => ∃ k ds jj, j = .int k ∧ S3[n]? = some (.lst ds) ∧ ixN ds.length k = some jj ∧ PS .nx L (S3.set n (.lst (ds.set jj d)))) : wps (sPutO a b c L S) PS := by
  unfold sPutO; rw [wps_st]; refine h.mono fun d S1 h => ?_; rw [wps_st]; refine h.mono fun o S2 ⟨n, e, h⟩ => ?_
  subst e; dsimp only; rw [wps_st]; refine h.mono fun j S3 ⟨k, ds, jj, e1, e2, e3, h⟩ => ?_
  subst e1; dsimp only; rw [e2]; dsimp only; rw [e3]; first | exact h | exact ⟨h⟩ | exact (h).mono fun _ _ k => ⟨k⟩
theorem q_put (h : wp (b L S) fun d S1 => ∃ ds, L[i]? = some (.o (.lst ds)) ∧ wp (a L S1) fun j S2 => ∃ k jj, j = .int k ∧ ixN ds.length k = some jj ∧ PS .nx (L.set i (.o (.lst (ds.set jj d)))) S2) : wps (sPut i a b L S) PS := by
  unfold sPut; rw [wps_st]; refine h.mono fun d S1 ⟨ds, e, h⟩ => ?_
  rw [e]; dsimp only; rw [wps_st]; refine h.mono fun j S3 ⟨k, jj, e1, e3, h⟩ => ?_
  subst e1; dsimp only; rw [e3]; first | exact h | exact ⟨h⟩ | exact (h).mono fun _ _ k => ⟨k⟩
theorem q_aug {o : D → D → Option D} (h : L[i]? = some (.v d)) (k : wp (m L S) fun y S1 => ∃ z, o (deref S1 d) (deref S1 y) = some z ∧ PS .nx (L.set i (.v z)) S1) : wps (sAug i o m L S) PS := by
  unfold sAug; rw [h]; dsimp only; rw [wps_st]; refine k.mono fun d S1 ⟨z, e, h⟩ => ?_; rw [e]; first | exact h | exact ⟨h⟩ | exact (h).mono fun _ _ k => ⟨k⟩
theorem q_for {mi : Ls → Sto → R Src} {t : Tg} (h : wp (mi L S) fun src S1 => wps (forL src.2 src.1 t sa src.1 L S1) PS) : wps (sFor mi t sa L S) PS := by
  unfold sFor; rw [wps_st]; first | exact h | exact ⟨h⟩ | exact (h).mono fun _ _ k => ⟨k⟩
theorem q_fn {n np : Nat} {P : D → Sto → Prop} {ds : List D} (hl : ds.length = np) (h : wps (sa (ds.map .v ++ List.replicate (n - np) .un) S) fun fl _ S1 => match fl with
    | .nx => P .non S1
    | .rt d => P d S1
    | _ => False) : wp (fnSem n np sa ds S) P := by
  unfold fnSem; rw [if_pos hl]; exact wp_end h
end
noncomputable def m_draw1 : SM := sSeq (sPutO (eVar 0) (eC (.int 1)) (eBin oAdd (eBin oIx (pVar 0) (eC (.int 1))) (eC (.int 1)))) (sSeq (sSet 2 (eBin oMod (eCall bInt (aCons (eBin oIx (pVar 0) (eC (.int 1))) (aNil))) (eCall bMax2 (aCons (eC (.int 1)) (aCons (eCall bLen (aCons (eBin oIx (pVar 0) (eC (.int 0))) (aNil))) (aNil)))))) (sSeq (sSet 3 (eBin oIx (eBin oAdd (eBin oIx (pVar 0) (eC (.int 0))) (eFz (fLst (aCons (eC (.int 0)) (aNil))))) (pVar 2))) (sSeq (sIf (tOfE (eBin cGe (pVar 3) (eBin oPow (eC (.int 10)) (eC (.int 18))))) (sSeq (sPutO (eBin oIx (pVar 0) (eC (.int 0))) (eVar 2) (eBin oFdiv (pVar 3) (pVar 1))) (sSeq (sRet (eBin oMod (eCall bInt (aCons (pVar 3) (aNil))) (pVar 1))) (sNil))) (sNil)) (sSeq (sSet 4 (eBin oPow (eBin oAdd (eBin oAdd (eBin oMod (eCall bInt (aCons (pVar 3) (aNil))) (eC (.int 2147483587))) (eBin oMul (eC (.int 7919)) (eBin oIx (pVar 0) (eC (.int 1))))) (eC (.int 1))) (eC (.int 5)))) (sSeq (sRet (eBin oMod (eCall bInt (aCons (eBin oMod (eCall bInt (aCons (pVar 4) (aNil))) (eC (.int 2147483647))) (aNil))) (pVar 1))) (sNil))))))
noncomputable def c_draw1 : Fn := fnSem 5 2 m_draw1
theorem atI_some {α : Type} {xs : List α} {i : Nat} {a : α} (h : xs[i]? = some a) : L2.atI xs (i : Int) = some a := by
  unfold L2.atI ixN
  have hl : i < xs.length := (List.getElem?_eq_some_iff.mp h).1
  rw [if_pos (Int.natCast_nonneg i), if_pos (by omega)]
  exact h

/-! two ways -/
theorem r_dec {p : Prop} [Decidable p] {A B : Prop} (h1 : p → A) (h2 : ¬ p → B) : (decide p = true → A) ∧ (decide p = false → B) := ⟨fun h => h1 (of_decide_eq_true h), fun h => h2 (of_decide_eq_false h)⟩
theorem r_ndec {p : Prop} [Decidable p] {A B : Prop} (h1 : ¬ p → A) (h2 : p → B) : ((!decide p) = true → A) ∧ ((!decide p) = false → B) := ⟨fun h => h1 (by simpa using h), fun h => h2 (by simpa using h)⟩
theorem r_isT {t : Bool} {A B : Prop} (h : t = true) (k : A) : (t = true → A) ∧ (t = false → B) := ⟨fun _ => k, fun z => Bool.noConfusion (h.symm.trans z)⟩
theorem r_isF {t : Bool} {A B : Prop} (h : t = false) (k : B) : (t = true → A) ∧ (t = false → B) := ⟨fun z => Bool.noConfusion (h.symm.trans z), fun _ => k⟩
/-! the operations at known kinds -/
theorem x_addi {a b : Int} : oAdd (.int a) (.int b) = some (.int (a + b)) := rfl
theorem x_adds {a b : List Nat} (h : a.length + b.length ≤ sizeLine) : oAdd (.str a) (.str b) = some (.str (a ++ b)) := if_pos h
theorem x_addt {a b : List D} (h : a.length + b.length ≤ sizeLine) : oAdd (.tup a) (.tup b) = some (.tup (a ++ b)) := if_pos h
theorem x_addl {a b : List D} (h : a.length + b.length ≤ sizeLine) : oAdd (.lst a) (.lst b) = some (.lst (a ++ b)) := if_pos h
theorem x_subi {a b : Int} : oSub (.int a) (.int b) = some (.int (a - b)) := rfl
theorem x_muli {a b : Int} (h : a.natAbs.log2 + b.natAbs.log2 < 1000000) : oMul (.int a) (.int b) = some (.int (a * b)) := if_pos h
theorem x_div {a b : Int} (h : 0 < b ∧ b.natAbs.log2 < 9000) : oFdiv (.int a) (.int b) = some (.int (a / b)) := if_pos h
theorem x_mod {a b : Int} (h : 0 < b) : oMod (.int a) (.int b) = some (.int (a % b)) := if_pos h
theorem x_pow {a b : Int} (h : 0 ≤ b ∧ b ≤ 1000000 ∧ a.natAbs < 2 ^ 64) : oPow (.int a) (.int b) = some (.int (a ^ b.toNat)) := if_pos h
theorem x_eqi {a b : Int} : cEq (.int a) (.int b) = some (.bl (decide (a = b))) := rfl
theorem x_nei {a b : Int} : cNe (.int a) (.int b) = some (.bl (decide (a ≠ b))) := by
  by_cases h : a = b
  · subst h; simp [cNe, eqB, flatEq]
  · simp [cNe, eqB, flatEq, h]
theorem x_lti {a b : Int} : cLt (.int a) (.int b) = some (.bl (decide (a < b))) := rfl
theorem x_lei {a b : Int} : cLe (.int a) (.int b) = some (.bl (decide (a ≤ b))) := rfl
theorem x_gti {a b : Int} : cGt (.int a) (.int b) = some (.bl (decide (b < a))) := rfl
theorem x_gei {a b : Int} : cGe (.int a) (.int b) = some (.bl (decide (b ≤ a))) := rfl
theorem x_eqs {a b : List Nat} : cEq (.str a) (.str b) = some (.bl (decide (a = b))) := by
  by_cases h : a = b
  · subst h; simp [cEq, eqB, flatEq]
  · simp [cEq, eqB, flatEq, h]
theorem x_nes {a b : List Nat} : cNe (.str a) (.str b) = some (.bl (decide (a ≠ b))) := by
  by_cases h : a = b
  · subst h; simp [cNe, eqB, flatEq]
  · simp [cNe, eqB, flatEq, h]
local macro_rules | `(tactic| walk_at "rf") => `(tactic| first
  | with_reducible refine q_seq ?_ | with_reducible refine q_nil ?_ | with_reducible refine q_set ?_ | with_reducible refine q_ret ?_ | with_reducible refine q_if ?_ | with_reducible refine q_retN ?_ | with_reducible refine q_drop ?_ | with_reducible refine q_tg ?_ | with_reducible refine q_par2 ?_ | with_reducible refine q_par3 ?_ | with_reducible refine q_own ?_ | ((with_reducible apply q_frz); exact rfl) | ((with_reducible apply q_frzV); exact rfl) | ((with_reducible apply q_app); exact rfl) | with_reducible refine q_putO ?_ | with_reducible refine q_put ?_ | ((with_reducible apply q_aug); exact rfl) | with_reducible refine q_brk ?_ | with_reducible refine q_cnt ?_
  | ((with_reducible apply r_pVar); exact rfl) | ((with_reducible apply r_eVar); exact rfl) | ((with_reducible apply r_pOwn); exact rfl) | with_reducible refine r_eC ?_ | with_reducible refine r_eBin ?_ | with_reducible refine r_eCall ?_ | with_reducible refine r_aCons ?_ | with_reducible refine r_aNil ?_ | with_reducible refine r_eFn ?_ | with_reducible refine r_tOfE ?_ | with_reducible refine r_tTr ?_ | with_reducible refine r_tNt ?_ | with_reducible refine r_tAn ?_ | with_reducible refine r_tOo ?_ | with_reducible refine r_tYs ?_
  | with_reducible refine r_eTup ?_ | with_reducible refine r_fLst ?_ | with_reducible refine r_eFz ?_ | with_reducible refine r_eNw ?_ | with_reducible refine r_eIf ?_ | with_reducible refine r_eAn ?_ | with_reducible refine r_eOo ?_ | with_reducible refine r_eNt ?_ | with_reducible refine r_eNeg ?_ | with_reducible refine r_eCh ?_ | with_reducible refine r_eSl ?_ | with_reducible refine r_oNo ?_ | with_reducible refine r_oSo ?_ | with_reducible refine r_eM0 ?_ | with_reducible refine r_eM1 ?_ | with_reducible refine r_eInT ?_ | with_reducible refine r_eIxT ?_ | with_reducible refine r_fCall ?_
  | with_reducible refine r_ok ?_ | with_reducible refine r_okL ?_ 
  | with_reducible refine ⟨_, x_addi, ?_⟩ | with_reducible refine ⟨_, x_subi, ?_⟩ | with_reducible refine ⟨_, x_eqi, ?_⟩ | with_reducible refine ⟨_, x_lti, ?_⟩ | with_reducible refine ⟨_, x_lei, ?_⟩ | with_reducible refine ⟨_, x_gti, ?_⟩ | with_reducible refine ⟨_, x_gei, ?_⟩ | with_reducible refine ⟨_, x_nei, ?_⟩ | with_reducible refine ⟨_, x_eqs, ?_⟩ | with_reducible refine ⟨_, x_nes, ?_⟩
  | with_reducible refine ⟨_, x_muli (by first | assumption | decide), ?_⟩ | with_reducible refine ⟨_, x_mod (by first | assumption | decide | omega), ?_⟩ | with_reducible refine ⟨_, x_pow (by first | assumption | decide), ?_⟩ | with_reducible refine ⟨_, x_div (by first | assumption | decide), ?_⟩
  | (fail_if_success (with_reducible refine ⟨_, x_muli ?_, ?_⟩)
     fail_if_success (with_reducible refine ⟨_, x_mod ?_, ?_⟩)
     fail_if_success (with_reducible refine ⟨_, x_pow ?_, ?_⟩)
     fail_if_success (with_reducible refine ⟨_, x_div ?_, ?_⟩)
     fail_if_success (with_reducible refine ⟨_, x_adds ?_, ?_⟩)
     fail_if_success (with_reducible refine ⟨_, x_addt ?_, ?_⟩)
     fail_if_success (with_reducible refine ⟨_, x_addl ?_, ?_⟩)
     (with_reducible apply Exists.intro)
     (repeat (with_reducible apply Exists.intro))
     refine And.intro rfl ?_)
  | ((with_reducible refine And.intro ?_ ?_); exact rfl)
  | ((with_reducible refine And.intro ?_ ?_); exact Nat.le_of_ble_eq_true rfl))
theorem draw1 {T S : Sto} {n : Nat} {many : Int} (h : Deck T (n + 1) S) (h0 : 0 < many) (hm : many.natAbs.log2 < 9000) : ∃ (r : Int) (S' : Sto), c_draw1 [.obj 1, .int many] S = .ok (.int r) S' ∧ 0 ≤ r ∧ r < many ∧ Deck T n S' := by
  obtain ⟨cs, c, rfl, hcs, hc, hcn, hlen⟩ := h
  have hlz : cs.length ≤ sizeLine := Nat.le_trans hlen (by decide)
  -- the place and the cell
  obtain ⟨p, hp⟩ : ∃ p : Nat, (p : Int) = (c + 1) % (if (cs.length : Int) > 1 then (cs.length : Int) else 1) := by
    have : 0 ≤ (c + 1) % (if (cs.length : Int) > 1 then (cs.length : Int) else 1) := Int.emod_nonneg _ (by split <;> omega)
    exact ⟨((c + 1) % (if (cs.length : Int) > 1 then (cs.length : Int) else 1)).toNat, by omega⟩
  have hp2 : (p : Int) < (if (cs.length : Int) > 1 then (cs.length : Int) else 1) := by
    rw [hp]; exact Int.emod_lt_of_pos _ (by split <;> omega)
  have hpl : p < cs.length + 1 := by split at hp2 <;> omega
  obtain ⟨x, hx⟩ : ∃ x : Int, (cs ++ [0])[p]? = some x := ⟨_, List.getElem?_eq_getElem (by rw [List.length_append, List.length_singleton]; exact hpl)⟩
  have hx0 : 0 ≤ x := by
    have := List.mem_of_getElem? hx
    rcases List.mem_append.mp this with z | z
    · exact hcs x z
    · rw [List.mem_singleton.mp z]; exact Int.le_refl _
  have hxD : (cs.map D.int ++ [D.int 0])[p]? = some (.int x) := by
    have : cs.map D.int ++ [D.int 0] = (cs ++ [0]).map D.int := by rw [List.map_append]; rfl
    rw [this, List.getElem?_map, hx]; rfl
  have hix := atI_some hxD
  have h18 : (0:Int) < 10 ^ 18 := by decide
  suffices h : wp (c_draw1 [.obj 1, .int many] (.lst (cs.map .int) :: .lst [.obj 0, .int c] :: T)) fun d S' => ∃ r, d = .int r ∧ 0 ≤ r ∧ r < many ∧ Deck T n S' by
    obtain ⟨d, S', e, r, rfl, h⟩ := h.ex
    exact ⟨r, S', e, h⟩
  unfold c_draw1
  refine q_fn rfl ?_
  unfold m_draw1
  have hlm : (cs.map D.int).length = cs.length := List.length_map _
  rw [← hlm] at hp hp2
  repeat walk_at "rf"
  refine ⟨.lst (cs.map D.int ++ [D.int 0]), if_pos (by
    show (cs.map D.int).length + 1 ≤ sizeLine
    rw [List.length_map]
    have : 64 ≤ sizeLine := by decide
    omega), ?_⟩
  repeat walk_at "rf"
  refine ⟨.int x, by rw [← hp]; exact hix, ?_⟩
  repeat walk_at "rf"
  refine ⟨fun ht => ?_, fun ht => ?_⟩
  · have hge : (10:Int) ^ 18 ≤ x := of_decide_eq_true ht
    have hp3 : p < cs.length := by
      rcases Nat.lt_or_ge p cs.length with z | z
      · exact z
      · rw [List.getElem?_append_right z] at hx
        have : p - cs.length = 0 := by omega
        rw [this] at hx
        cases hx
        omega
    have hdv : 0 < many ∧ many.natAbs.log2 < 9000 := ⟨h0, hm⟩
    repeat walk_at "rf"
    have hix2 : ixN (cs.map D.int).length ((c + 1) % (if ((cs.map D.int).length : Int) > 1 then ((cs.map D.int).length : Int) else 1)) = some p := by
      unfold ixN
      rw [← hp, if_pos (Int.natCast_nonneg p), if_pos (by rw [List.length_map]; omega)]
      rfl
    refine ⟨hix2, ?_⟩
    repeat walk_at "rf"
    refine ⟨Int.emod_nonneg _ (by omega), Int.emod_lt_of_pos _ h0, ?_⟩
    refine ⟨cs.set p (x / many), c + 1, ?_, fun y hy => ?_, by omega, by omega, by rw [List.length_set]; exact hlen⟩
    · rw [List.map_set]; rfl
    · rcases List.mem_or_eq_of_mem_set hy with z | z
      · exact hcs y z
      · rw [z]; exact Int.ediv_nonneg hx0 (by omega)
  · have hm0 : 0 ≤ x % 2147483587 := Int.emod_nonneg _ (by decide)
    have hm1 : x % 2147483587 < 2147483587 := Int.emod_lt_of_pos _ (by decide)
    have hb : (0:Int) ≤ 5 ∧ (5:Int) ≤ 1000000 ∧ (x % 2147483587 + 7919 * (c + 1) + 1).natAbs < 2 ^ 64 := ⟨by decide, by decide, by omega⟩
    have hl : (7919 : Int).natAbs.log2 + (c + 1).natAbs.log2 < 1000000 := by
      have h1 : (c + 1).natAbs < 2 ^ 41 := by omega
      have h2 : (c + 1).natAbs.log2 < 41 := (Nat.log2_lt (by omega)).mpr h1
      have h3 : (7919 : Int).natAbs.log2 = 12 := by decide
      omega
    repeat walk_at "rf"
    exact ⟨Int.emod_nonneg _ (by omega), Int.emod_lt_of_pos _ h0, cs, c + 1, rfl, hcs, by omega, by omega, hlen⟩

noncomputable def m_one : SM := sSeq (sRet (eBin oIx (pVar 1) (eFn c_draw1 (aCons (eVar 0) (aCons (eCall bLen (aCons (pVar 1) (aNil))) (aNil)))))) (sNil)
noncomputable def c_one : Fn := fnSem 2 2 m_one
section
variable {T S : Sto} {n : Nat} {P : D → Sto → Prop}
theorem w_draw {many : Int} (h : Deck T (n + 1) S) (h0 : 0 < many) (hm : many.natAbs.log2 < 9000) (k : ∀ (r : Int) (S' : Sto), 0 ≤ r → r < many → Deck T n S' → P (.int r) S') : wp (c_draw1 [.obj 1, .int many] S) P := by
  obtain ⟨r, S', e, h1, h2, h3⟩ := draw1 h h0 hm
  rw [e]
  exact ⟨k r S' h1 h2 h3⟩
theorem w_one {xs : List D} (h : Deck T (n + 1) S) (h0 : xs ≠ []) (hz : xs.length < 2 ^ 40) (k : ∀ (x : D) (S' : Sto), x ∈ xs → Deck T n S' → P x S') : wp (c_one [.obj 1, .lst xs] S) P := by
  unfold c_one
  refine q_fn rfl ?_
  unfold m_one
  have hl : 0 < xs.length := List.length_pos_iff.mpr h0
  repeat walk_at "rf"
  refine w_draw h (by omega) ?_ fun r S' h1 h2 h3 => ?_
  · have : ((xs.length : Int)).natAbs = xs.length := rfl
    rw [this]
    have := (Nat.log2_lt (by omega)).mpr hz
    omega
  · obtain ⟨j, rfl⟩ := Int.eq_ofNat_of_zero_le h1
    have hj : j < xs.length := by omega
    refine ⟨xs[j], atI_some (List.getElem?_eq_getElem hj), ?_⟩
    exact k _ _ (List.getElem_mem hj) h3
theorem w_oneT {xs : List D} (h : Deck T (n + 1) S) (h0 : xs ≠ []) (hz : xs.length < 2 ^ 40) (k : ∀ (x : D) (S' : Sto), x ∈ xs → Deck T n S' → P x S') : wp (c_one [.obj 1, .tup xs] S) P := by
  unfold c_one
  refine q_fn rfl ?_
  unfold m_one
  have hl : 0 < xs.length := List.length_pos_iff.mpr h0
  repeat walk_at "rf"
  refine w_draw h (by omega) ?_ fun r S' h1 h2 h3 => ?_
  · have : ((xs.length : Int)).natAbs = xs.length := rfl
    rw [this]
    have := (Nat.log2_lt (by omega)).mpr hz
    omega
  · obtain ⟨j, rfl⟩ := Int.eq_ofNat_of_zero_le h1
    have hj : j < xs.length := by omega
    refine ⟨xs[j], atI_some (List.getElem?_eq_getElem hj), ?_⟩
    exact k _ _ (List.getElem_mem hj) h3
theorem w_oneS {xs : List Nat} (h : Deck T (n + 1) S) (h0 : xs ≠ []) (hz : xs.length < 1000) (k : ∀ (x : Nat) (S' : Sto), x ∈ xs → Deck T n S' → P (.str [x]) S') : wp (c_one [.obj 1, .str xs] S) P := by
  unfold c_one
  refine q_fn rfl ?_
  unfold m_one
  have hl : 0 < xs.length := List.length_pos_iff.mpr h0
  have hzz : xs.length ≤ sizeLine := Nat.le_trans (Nat.le_of_lt hz) (by decide)
  refine q_seq (q_ret (r_eBin (r_pVar rfl (r_eFn (r_aCons (r_eVar rfl (r_aCons (r_eCall (r_aCons (r_pVar rfl (r_aNil ⟨.int (xs.length : Int), ?_, r_aNil ?_⟩)))))))))))
  · show ((if xs.length ≤ sizeLine then some xs.length else none).map fun (n : Nat) => D.int (n : Int)) = _
    rw [if_pos hzz]; rfl
  refine w_draw h (by omega) ?_ fun r S' h1 h2 h3 => ?_
  · have : ((xs.length : Int)).natAbs = xs.length := rfl
    rw [this]
    have := (Nat.log2_lt (n := xs.length) (k := 10) (by omega)).mpr (by omega)
    omega
  · obtain ⟨j, rfl⟩ := Int.eq_ofNat_of_zero_le h1
    have hj : j < xs.length := by omega
    refine ⟨.str [xs[j]], ?_, k _ _ (List.getElem_mem hj) h3⟩
    show (if xs.length ≤ sizeLine then (L2.atI xs (j : Int)).map fun c => D.str [c] else none) = _
    rw [if_pos hzz, atI_some (List.getElem?_eq_getElem hj)]
    rfl
end
theorem lg {n k : Nat} (h : n < 2 ^ k) (hk : 0 < k) : n.log2 < k := by
  by_cases z : n = 0
  · rw [z]; exact hk
  · exact (Nat.log2_lt z).mpr h
theorem lgi {i : Int} {k : Nat} (h : i.natAbs < 2 ^ k) (hk : 0 < k) : i.natAbs.log2 < k := lg h hk
theorem bits_le {i : Int} {k : Nat} (h : i.natAbs < 2 ^ k) (hk : 0 < k) : Builtin.Int.intBits i ≤ k := by
  have := lg h hk
  unfold Builtin.Int.intBits
  split <;> omega
theorem numL_lenk {n k : Nat} (hk : 1 ≤ k) (h : n < 10 ^ k) : (numL n).length ≤ k := by
  unfold numL
  rw [List.length_map]
  have := PySem.digitsCore_len_pow 10 (by decide) k (n + 1) n [] hk h
  simpa [Nat.toDigits] using this
end Rf

set_option Elab.async false
set_option linter.all false
set_option maxRecDepth 100000
set_option maxHeartbeats 0
/-! Rf, part 17: the rules, found by what stands ahead. -/
namespace Rf
open PySem L2 TL
class Wp [xp : ExP] {α : Type} (m : R α) (P : α → Sto → Prop) (G : outParam Prop) : Prop where
  imp : G → wp m P
class Ws [xp : ExP] (m : RS) (P : Fl → Ls → Sto → Prop) (G : outParam Prop) : Prop where
  imp : G → wps m P
/-- an operation at known kinds -/
class Op (e : Option D) (z : outParam D) : Prop where
  eq : e = some z
/-- .. under a condition -/
class Og (e : Option D) (z : outParam D) (c : outParam Prop) : Prop where
  eq : c → e = some z
variable {xp : ExP}
section
variable {P : D → Sto → Prop} {PL : List D → Sto → Prop} {PB : Bool → Sto → Prop} {PO : Option Int → Sto → Prop} {PS : Fl → Ls → Sto → Prop} {PR : Src → Sto → Prop} {L : Ls} {S : Sto} {i j l : Nat} {d : D} {ds : List D} {a b c m : EM} {ma mr : Ls → Sto → R (List D)} {ta tb : Ls → Sto → R Bool} {sa sb : SM}
  {o o' : D → D → Option D} {oL : List D → Option D} {oF : List D → Option (List D)} {f : Fn} {o1 : List Nat → D → Option D} {o0 : D → Option D} {ml mh : Ls → Sto → R (Option Int)} {ng : Bool} {t : Tb} {tg : Tg} {own : List Nat} {mi : Ls → Sto → R Src} {oS : List D → Option Src}
theorem v_pVar (h : ∃ v, L[i]? = some v ∧ match v with
    | .v d => P d S
    | .o (.lst ds) => P (.lst ds) S
    | _ => False) : wp (pVar i L S) P := by
  obtain ⟨v, e, h⟩ := h
  cases v with
  | v d => exact r_pVar e h
  | o u => cases u with
    | lst ds => exact r_pOwn e h
    | _ => exact h.elim
  | un => exact h.elim
  | exc x => exact h.elim
theorem v_eVar (h : ∃ d, L[i]? = some (.v d) ∧ P d S) : wp (eVar i L S) P := by obtain ⟨d, e, h⟩ := h; exact r_eVar e h
theorem v_frz (h : ∃ v, L[i]? = some v ∧ match v with
    | .v _ => wps (sa L S) PS
    | .o (.lst ds) => wps (sa (L.set i (.v (.lst ds))) S) PS
    | _ => False) : wps (sFrz i sa L S) PS := by
  obtain ⟨v, e, h⟩ := h
  cases v with
  | v d => exact q_frzV e h
  | o u => cases u with
    | lst ds => exact q_frz e h
    | _ => exact h.elim
  | un => exact h.elim
  | exc x => exact h.elim
theorem v_app (h : ∃ ds, L[i]? = some (.o (.lst ds)) ∧ wp (m L S) fun d S1 => ds.length < sizeLine ∧ PS .nx (L.set i (.o (.lst (ds ++ [d])))) S1) : wps (sApp i m L S) PS := by obtain ⟨d, e, h⟩ := h; exact q_app e h
theorem v_aug (h : ∃ d, L[i]? = some (.v d) ∧ wp (m L S) fun y S1 => ∃ z, o (deref S1 d) (deref S1 y) = some z ∧ PS .nx (L.set i (.v z)) S1) : wps (sAug i o m L S) PS := by obtain ⟨d, e, h⟩ := h; exact q_aug e h
instance : Wp (eVar i L S) P (∃ d, L[i]? = some (.v d) ∧ P d S) := ⟨v_eVar⟩
instance : Wp (pVar i L S) P (∃ v, L[i]? = some v ∧ match v with
    | .v d => P d S
    | .o (.lst ds) => P (.lst ds) S
    | _ => False) := ⟨v_pVar⟩
instance : Wp (.ok d S) P (P d S) := ⟨r_ok⟩
instance : Wp (.ok ds S) PL (PL ds S) := ⟨r_okL⟩
instance : Wp (eC d L S) P (P d S) := ⟨r_eC⟩
instance {o : D → D → Option D} : Wp (eBin o a b L S) P (wp (a L S) fun x S1 => wp (b L S1) fun y S2 => ∃ z, o (deref S2 x) (deref S2 y) = some z ∧ P z S2) := ⟨r_eBin⟩
instance {o o' : D → D → Option D} : Wp (eCh o o' a b c L S) P (wp (a L S) fun x S1 => wp (b L S1) fun y S2 => ∃ t, o (deref S2 x) (deref S2 y) = some (.bl t) ∧ (t = true → wp (c L S2) fun z S3 => ∃ w, o' (deref S3 y) (deref S3 z) = some w ∧ P w S3) ∧ (t = false → P (.bl false) S2)) := ⟨r_eCh⟩
instance : Wp (eAn a b L S) P (wp (a L S) fun d S1 => ∃ t, d = .bl t ∧ (t = true → wp (b L S1) P) ∧ (t = false → P (.bl false) S1)) := ⟨r_eAn⟩
instance : Wp (eOo a b L S) P (wp (a L S) fun d S1 => ∃ t, d = .bl t ∧ (t = true → P (.bl true) S1) ∧ (t = false → wp (b L S1) P)) := ⟨r_eOo⟩
instance : Wp (eNt a L S) P (wp (a L S) fun d S1 => ∃ t, d = .bl t ∧ P (.bl (!t)) S1) := ⟨r_eNt⟩
instance : Wp (eIf ta a b L S) P (wp (ta L S) fun t S1 => (t = true → wp (a L S1) P) ∧ (t = false → wp (b L S1) P)) := ⟨r_eIf⟩
instance : Wp (eNeg a L S) P (wp (a L S) fun d S1 => ∃ n, d = .int n ∧ P (.int (-n)) S1) := ⟨r_eNeg⟩
instance : Wp (aNil L S) PL (PL [] S) := ⟨r_aNil⟩
instance : Wp (aCons m mr L S) PL (wp (m L S) fun d S1 => wp (mr L S1) fun ds S2 => PL (d :: ds) S2) := ⟨r_aCons⟩
instance : Wp (eTup ma L S) P (wp (ma L S) fun ds S1 => ds.length ≤ sizeLine ∧ P (.tup ds) S1) := ⟨r_eTup⟩
instance : Wp (fLst ma L S) PL (wp (ma L S) fun ds S1 => ds.length ≤ sizeLine ∧ PL ds S1) := ⟨r_fLst⟩
instance : Wp (eFz ma L S) P (wp (ma L S) fun ds S1 => P (.lst ds) S1) := ⟨r_eFz⟩
instance : Wp (eNw ma L S) P (wp (ma L S) fun ds S1 => P (.obj S1.length) (S1 ++ [.lst ds])) := ⟨r_eNw⟩
instance {o : List D → Option D} : Wp (eCall o ma L S) P (wp (ma L S) fun ds S1 => ∃ z, o (ds.map (deref S1)) = some z ∧ P z S1) := ⟨r_eCall⟩
instance {o : List D → Option (List D)} : Wp (fCall o ma L S) PL (wp (ma L S) fun ds S1 => ∃ z, o (ds.map (deref S1)) = some z ∧ PL z S1) := ⟨r_fCall⟩
instance {f : Fn} : Wp (eFn f ma L S) P (wp (ma L S) fun ds S1 => wp (f ds S1) P) := ⟨r_eFn⟩
instance {o : List Nat → D → Option D} : Wp (eM1 o a b L S) P (wp (a L S) fun d S1 => ∃ x, d = .str x ∧ wp (b L S1) fun e S2 => ∃ z, o x (deref S2 e) = some z ∧ P z S2) := ⟨r_eM1⟩
instance {o : D → Option D} : Wp (eM0 o a L S) P (wp (a L S) fun d S1 => ∃ z, o d = some z ∧ P z S1) := ⟨r_eM0⟩
instance : Wp (oNo L S) PO (PO none S) := ⟨r_oNo⟩
instance : Wp (oSo m L S) PO (wp (m L S) fun d S1 => ∃ n, d = .int n ∧ PO (some n) S1) := ⟨r_oSo⟩
instance {ml mh : Ls → Sto → R (Option Int)} : Wp (eSl a ml mh L S) P (wp (a L S) fun d S1 => wp (ml L S1) fun lo S2 => wp (mh L S2) fun hi S3 => ∃ z, oSl (deref S3 d) lo hi = some z ∧ P z S3) := ⟨r_eSl⟩
instance {ng : Bool} {t : Tb} : Wp (eInT ng t m L S) P (wp (m L S) fun d S1 => ∃ z, d = .str z ∧ P (.bl (ng != (t.get z).isSome)) S1) := ⟨r_eInT⟩
instance {t : Tb} : Wp (eIxT t m L S) P (wp (m L S) fun d S1 => ∃ z, d = .str z ∧ ∃ r, t.get z = some r ∧ P r S1) := ⟨r_eIxT⟩
instance : Wp (tOfE m L S) PB (wp (m L S) fun d S1 => ∃ t, d = .bl t ∧ PB t S1) := ⟨r_tOfE⟩
instance : Wp (tTr m L S) PB (wp (m L S) fun d S1 => ∃ t, truth (deref S1 d) = some t ∧ PB t S1) := ⟨r_tTr⟩
instance : Wp (tNt ta L S) PB (wp (ta L S) fun t S1 => PB (!t) S1) := ⟨r_tNt⟩
instance : Wp (tAn ta tb L S) PB (wp (ta L S) fun t S1 => (t = true → wp (tb L S1) PB) ∧ (t = false → PB false S1)) := ⟨r_tAn⟩
instance : Wp (tOo ta tb L S) PB (wp (ta L S) fun t S1 => (t = true → PB true S1) ∧ (t = false → wp (tb L S1) PB)) := ⟨r_tOo⟩
instance : Wp (tYs L S) PB (PB true S) := ⟨r_tYs⟩
instance : Wp (iVal m L S) PR (wp (m L S) fun d S1 => ∃ s, srcOf S1 d = some s ∧ PR s S1) := ⟨r_iVal⟩
instance {o : List D → Option Src} : Wp (iArgs o ma L S) PR (wp (ma L S) fun ds S1 => ∃ s, o ds = some s ∧ PR s S1) := ⟨r_iArgs⟩
instance {mi : Ls → Sto → R Src} {own : List Nat} {t : Tg} : Wp (fLc mi own t ta m L S) PL (wp (mi L S) fun src S1 => wp (lcLoop src.2 src.1 t ta m (wipeL L own) src.1 S1 []) PL) := ⟨r_fLc⟩
instance : Ws (sNil L S) PS (PS .nx L S) := ⟨q_nil⟩
instance : Ws (sBrk L S) PS (PS .bk L S) := ⟨q_brk⟩
instance : Ws (sCnt L S) PS (PS .ct L S) := ⟨q_cnt⟩
instance : Ws (sRetN L S) PS (PS (.rt .non) L S) := ⟨q_retN⟩
instance : Ws (sSeq sa sb L S) PS (wps (sa L S) fun fl L1 S1 => match fl with
    | .nx => wps (sb L1 S1) PS
    | fl => PS fl L1 S1) := ⟨q_seq⟩
instance : Ws (sRet m L S) PS (wp (m L S) fun d S1 => PS (.rt d) L S1) := ⟨q_ret⟩
instance : Ws (sDrop m L S) PS (wp (m L S) fun d S1 => PS .nx L S1) := ⟨q_drop⟩
instance : Ws (sSet i m L S) PS (wp (m L S) fun d S1 => PS .nx (L.set i (.v d)) S1) := ⟨q_set⟩
instance : Ws (sOwn i ma L S) PS (wp (ma L S) fun ds S1 => PS .nx (L.set i (.o (.lst ds))) S1) := ⟨q_own⟩
instance : Ws (sFrz i sa L S) PS (∃ v, L[i]? = some v ∧ match v with
    | .v _ => wps (sa L S) PS
    | .o (.lst ds) => wps (sa (L.set i (.v (.lst ds))) S) PS
    | _ => False) := ⟨v_frz⟩
instance {t : Tg} : Ws (sTg t m L S) PS (wp (m L S) fun d S1 => ∃ L1, tgA t d L = some L1 ∧ PS .nx L1 S1) := ⟨q_tg⟩
instance : Ws (sPar2 i j ma L S) PS (wp (ma L S) fun ds S1 => ∃ x y, ds = [x, y] ∧ PS .nx ((L.set i (.v x)).set j (.v y)) S1) := ⟨q_par2⟩
instance : Ws (sPar3 i j l ma L S) PS (wp (ma L S) fun ds S1 => ∃ x y z, ds = [x, y, z] ∧ PS .nx (((L.set i (.v x)).set j (.v y)).set l (.v z)) S1) := ⟨q_par3⟩
instance : Ws (sIf ta sa sb L S) PS (wp (ta L S) fun t S1 => (t = true → wps (sa L S1) PS) ∧ (t = false → wps (sb L S1) PS)) := ⟨q_if⟩
instance : Ws (sApp i m L S) PS (∃ ds, L[i]? = some (.o (.lst ds)) ∧ wp (m L S) fun d S1 => ds.length < sizeLine ∧ PS .nx (L.set i (.o (.lst (ds ++ [d])))) S1) := ⟨v_app⟩
instance : Ws (sPutO a b c L S) PS (wp (c L S) fun d S1 => wp (a L S1) fun o S2 => ∃ n, o = .obj n ∧ wp (b L S2) fun j S3 => ∃ k ds jj, j = .int k ∧ S3[n]? = some (.lst ds) ∧ ixN ds.length k = some jj ∧ PS .nx L (S3.set n (.lst (ds.set jj d)))) := ⟨q_putO⟩
instance : Ws (sPut i a b L S) PS (wp (b L S) fun d S1 => ∃ ds, L[i]? = some (.o (.lst ds)) ∧ wp (a L S1) fun j S2 => ∃ k jj, j = .int k ∧ ixN ds.length k = some jj ∧ PS .nx (L.set i (.o (.lst (ds.set jj d)))) S2) := ⟨q_put⟩
instance : Ws (sAug i o m L S) PS (∃ d, L[i]? = some (.v d) ∧ wp (m L S) fun y S1 => ∃ z, o (deref S1 d) (deref S1 y) = some z ∧ PS .nx (L.set i (.v z)) S1) := ⟨v_aug⟩
instance {mi : Ls → Sto → R Src} {t : Tg} : Ws (sFor mi t sa L S) PS (wp (mi L S) fun src S1 => wps (forL src.2 src.1 t sa src.1 L S1) PS) := ⟨q_for⟩
end
section
variable {a b : Int}
instance : Op (oAdd (.int a) (.int b)) (.int (a + b)) := ⟨x_addi⟩
instance : Op (oSub (.int a) (.int b)) (.int (a - b)) := ⟨x_subi⟩
instance : Op (cEq (.int a) (.int b)) (.bl (decide (a = b))) := ⟨x_eqi⟩
instance : Op (cNe (.int a) (.int b)) (.bl (decide (a ≠ b))) := ⟨x_nei⟩
instance : Op (cLt (.int a) (.int b)) (.bl (decide (a < b))) := ⟨x_lti⟩
instance : Op (cLe (.int a) (.int b)) (.bl (decide (a ≤ b))) := ⟨x_lei⟩
instance : Op (cGt (.int a) (.int b)) (.bl (decide (b < a))) := ⟨x_gti⟩
instance : Op (cGe (.int a) (.int b)) (.bl (decide (b ≤ a))) := ⟨x_gei⟩
instance {a b : List Nat} : Op (cEq (.str a) (.str b)) (.bl (decide (a = b))) := ⟨x_eqs⟩
instance {a b : List Nat} : Op (cNe (.str a) (.str b)) (.bl (decide (a ≠ b))) := ⟨x_nes⟩
instance : Og (oMul (.int a) (.int b)) (.int (a * b)) (a.natAbs.log2 + b.natAbs.log2 < 1000000) := ⟨x_muli⟩
instance : Og (oFdiv (.int a) (.int b)) (.int (a / b)) (0 < b ∧ b.natAbs.log2 < 9000) := ⟨x_div⟩
instance : Og (oMod (.int a) (.int b)) (.int (a % b)) (0 < b) := ⟨x_mod⟩
instance : Og (oPow (.int a) (.int b)) (.int (a ^ b.toNat)) (0 ≤ b ∧ b ≤ 1000000 ∧ a.natAbs < 2 ^ 64) := ⟨x_pow⟩
instance {a b : List Nat} : Og (oAdd (.str a) (.str b)) (.str (a ++ b)) (a.length + b.length ≤ sizeLine) := ⟨x_adds⟩
instance {a b : List D} : Og (oAdd (.tup a) (.tup b)) (.tup (a ++ b)) (a.length + b.length ≤ sizeLine) := ⟨x_addt⟩
instance {a b : List D} : Og (oAdd (.lst a) (.lst b)) (.lst (a ++ b)) (a.length + b.length ≤ sizeLine) := ⟨x_addl⟩
end
theorem g_op {e : Option D} {z : D} [h : Op e z] {Q : D → Prop} (k : Q z) : ∃ w, e = some w ∧ Q w := ⟨z, h.eq, k⟩
theorem g_og {e : Option D} {z : D} {c : Prop} [h : Og e z c] {Q : D → Prop} (hc : c) (k : Q z) : ∃ w, e = some w ∧ Q w := ⟨z, h.eq hc, k⟩
/-! loops over known lists, a turn at a time -/
section
variable {all xs ds acc : List D} {d : D} {t : Tg} {b : SM} {L Lw : Ls} {S : Sto} {PS : Fl → Ls → Sto → Prop} {PL : List D → Sto → Prop} {tt : Ls → Sto → R Bool} {te : EM}
theorem f_nil (h : xs = []) (k : PS .nx L S) : wps (forL none all t b xs L S) PS := by subst h; exact ⟨k⟩
theorem f_cons (h : xs = d :: ds) (k : ∃ L1, tgA t d L = some L1 ∧ wps (b L1 S) fun fl L2 S2 => match fl with
    | .nx => wps (forL none all t b ds L2 S2) PS
    | .ct => wps (forL none all t b ds L2 S2) PS
    | .bk => PS .nx L2 S2
    | .rt x => PS (.rt x) L2 S2) : wps (forL none all t b xs L S) PS := by
  subst h
  obtain ⟨L1, e, k⟩ := k
  rw [forL, ckS, e]
  dsimp only
  cases q : b L1 S with
  | no => rw [q] at k; exact k.out.elim
  | ex x L2 S2 => rw [q] at k; exact ⟨k.out⟩
  | ok fl L2 S2 =>
    rw [q] at k
    cases fl <;> first | exact k.out | exact ⟨k.out⟩
theorem l_nil (h : xs = []) (k : PL acc S) : wp (lcLoop none all t tt te Lw xs S acc) PL := by subst h; exact ⟨k⟩
theorem l_cons (h : xs = d :: ds) (k : ∃ L1, tgA t d Lw = some L1 ∧ @wp noXP _ (tt L1 S) fun b S1 => (b = true → @wp noXP _ (te L1 S1) fun y S2 => acc.length < sizeLine ∧ wp (lcLoop none all t tt te Lw ds S2 (acc ++ [y])) PL) ∧ (b = false → wp (lcLoop none all t tt te Lw ds S1 acc) PL)) : wp (lcLoop none all t tt te Lw xs S acc) PL := by
  subst h
  obtain ⟨L1, e, h⟩ := k
  rw [lcLoop, ckd, e]
  dsimp only
  cases q : tt L1 S with
  | no => rw [q] at h; exact h.out.elim
  | ex x S1 => rw [q] at h; exact h.out.elim
  | ok b S1 =>
    rw [q] at h
    obtain ⟨h1, h2⟩ := (show (b = true → @wp noXP _ (te L1 S1) fun y S2 => acc.length < sizeLine ∧ wp (lcLoop none all t tt te Lw ds S2 (acc ++ [y])) PL) ∧ (b = false → wp (lcLoop none all t tt te Lw ds S1 acc) PL) from h.out)
    dsimp only [R.nox, R.bind]
    cases b with
    | true =>
      have h1 := h1 rfl
      rw [if_pos rfl]
      cases q2 : te L1 S1 with
      | no => rw [q2] at h1; exact h1.out.elim
      | ex x S2 => rw [q2] at h1; exact h1.out.elim
      | ok y S2 =>
        rw [q2] at h1
        obtain ⟨hz, h1⟩ := h1.out
        dsimp only
        rw [if_pos hz]
        exact h1
    | false => exact h2 rfl
end
theorem lc_str {all : List D} {i : Nat} {te : EM} {Lw : Ls} {S : Sto} {x : List Nat} (f : Nat → D) (h : ∀ c, te (Lw.set i (.v (.str [c]))) S = .ok (f c) S) (hz : x.length ≤ sizeLine) : lcLoop none all (.nm i) tYs te Lw (strI x) S [] = .ok (x.map f) S := by
  have e := lc_map (all := all) (t := .nm i) (tt := tYs) (te := te) (Lw := Lw) (S := S) (fun d => match d with
    | .str [c] => f c
    | d => d) (strI x) [] (fun d hd => by
      obtain ⟨c, _, rfl⟩ := List.mem_map.mp hd
      exact ⟨_, rfl, rfl, h c⟩) (by unfold strI; rw [List.length_map, List.length_nil]; omega)
  rw [e, List.nil_append]
  unfold strI
  rw [List.map_map]
  rfl
theorem bls_map {α : Type} (f : α → Bool) : ∀ s : List α, blsD (s.map fun c => D.bl (f c)) = some (s.map f)
  | [] => rfl
  | c :: s => by rw [List.map_cons, blsD, bls_map f s]; rfl
theorem all_map {α : Type} (f : α → Bool) (s : List α) : bAll [.lst (s.map fun c => D.bl (f c))] = some (.bl (s.all f)) := by
  show (blsD (s.map fun c => D.bl (f c))).map (fun bs => D.bl (bs.all id)) = _
  rw [bls_map, Option.map_some, List.all_map]
  rfl
theorem g_len {ds : List D} {x : List Nat} {P : D → Prop} (hd : ds = [.str x]) (hz : x.length ≤ sizeLine) (k : P (.int (x.length : Nat))) : ∃ z, bLen ds = some z ∧ P z := by
  subst hd
  refine ⟨_, ?_, k⟩
  show (if x.length ≤ sizeLine then some x.length else none).map (fun (n : Nat) => D.int (n : Int)) = _
  rw [if_pos hz]
  rfl
theorem g_rng1 {ds : List D} {j : Int} {P : Src → Prop} (hd : ds = [.int j]) (h : -(2 ^ 62) ≤ j ∧ j < 2 ^ 62) (k : P (rngI 0 j.toNat, none)) : ∃ s, rng1 ds = some s ∧ P s := by
  subst hd
  exact ⟨_, if_pos h, k⟩
theorem g_rng2 {ds : List D} {i j : Int} {P : Src → Prop} (hd : ds = [.int i, .int j]) (h : (-(2 ^ 62) ≤ i ∧ i < 2 ^ 62) ∧ -(2 ^ 62) ≤ j ∧ j < 2 ^ 62) (k : P (rngI i (j - i).toNat, none)) : ∃ s, rng2 ds = some s ∧ P s := by
  subst hd
  exact ⟨_, if_pos h, k⟩
theorem joinL_one : ∀ cs : List Nat, joinL [] (cs.map fun c => [c]) = cs
  | [] => rfl
  | [c] => rfl
  | c :: d :: cs => by
    have := joinL_one (d :: cs)
    simp only [List.map_cons] at this ⊢
    rw [joinL, this]
    rfl
theorem strs_map : ∀ cs : List (List Nat), strsD (cs.map .str) = some cs
  | [] => rfl
  | c :: cs => by rw [List.map_cons, strsD, strs_map cs]; rfl
theorem join_one {cs : List Nat} (h : cs.length ≤ 1000000) : oJoin [] (.lst (cs.map fun c => .str [c])) = some (.str cs) := by
  have e : (cs.map fun c => D.str [c]) = (cs.map fun c => [c]).map .str := by rw [List.map_map]; rfl
  show (strsD (cs.map fun c => D.str [c])).bind (jn []) = _
  rw [e, strs_map]
  show jn [] (cs.map fun c => [c]) = _
  unfold jn
  have hs : ∀ cs : List Nat, ((cs.map fun c => [c]).map (·.length)).sum = cs.length := fun cs => by
    induction cs with
    | nil => rfl
    | cons c cs ih =>
      rw [List.map_cons, List.map_cons, List.sum_cons, ih, List.length_cons]
      simp
      omega
  rw [if_pos (by rw [hs]; simp; omega), joinL_one]
theorem cut_len {α : Type} (x : List α) (lo hi : Option Int) : (cutD x lo hi).length ≤ x.length := by
  unfold cutD
  rw [List.length_take, List.length_drop]
  omega
theorem x_sls {x : List Nat} {lo hi : Option Int} (h : x.length ≤ sizeLine) : oSl (.str x) lo hi = some (.str (cutD x lo hi)) := if_pos h
instance {x : List Nat} {lo hi : Option Int} : Og (oSl (.str x) lo hi) (.str (cutD x lo hi)) (x.length ≤ sizeLine) := ⟨x_sls⟩
instance {x : List D} {lo hi : Option Int} : Op (oSl (.lst x) lo hi) (.lst (cutD x lo hi)) := ⟨rfl⟩
instance {x : List D} {lo hi : Option Int} : Op (oSl (.tup x) lo hi) (.tup (cutD x lo hi)) := ⟨rfl⟩
end Rf

set_option Elab.async false
set_option linter.all false
set_option maxRecDepth 100000
set_option maxHeartbeats 0
/-! Rf, part 18: loops over mapped lists, over numbers, over places. -/
namespace Rf
open PySem L2 TL
variable {xp : ExP}

theorem rngI_succ (lo : Int) (n : Nat) : rngI lo (n + 1) = .int lo :: rngI (lo + 1) n := by
  unfold rngI
  rw [List.range_succ_eq_map, List.map_cons, List.map_map]
  congr 1
  · simp
  · apply List.map_congr_left
    intro i _
    simp only [Function.comp]
    congr 1
    omega
theorem rngI_len (lo : Int) (n : Nat) : (rngI lo n).length = n := by unfold rngI; rw [List.length_map, List.length_range]
def enF (j : Int) (ds : List D) : List D := pairI (rngI j ds.length) ds
theorem enF_cons {j : Int} {d : D} {ds : List D} : enF j (d :: ds) = .tup [.int j, d] :: enF (j + 1) ds := by
  unfold enF
  rw [List.length_cons, rngI_succ]
  rfl
theorem enI_F (ds : List D) : enI ds = enF 0 ds := rfl
theorem pairI_cons {a b : D} {as bs : List D} : pairI (a :: as) (b :: bs) = .tup [a, b] :: pairI as bs := rfl
section
variable {α : Type} {f g : α → D} {all : List D} {t : Tg} {b : SM} {P : Fl → Ls → Sto → Prop} {PL : List D → Sto → Prop} {tt : Ls → Sto → R Bool} {te : EM} {Lw : Ls}
theorem wps_ea (J : List α → Ls → Sto → Prop)
    (step : ∀ a as L S, J (a :: as) L S → ∃ L1, tgA t (f a) L = some L1 ∧ wps (b L1 S) fun fl L2 S2 => match fl with
      | .nx => J as L2 S2
      | .ct => J as L2 S2
      | .bk => P .nx L2 S2
      | fl => P fl L2 S2)
    (done : ∀ L S, J [] L S → P .nx L S) (as : List α) (L : Ls) (S : Sto) (h : J as L S) : wps (forL none all t b (as.map f) L S) P := by
  refine wps_for (fun ds L S => ∃ as, ds = as.map f ∧ J as L S) ?_ ?_ _ L S ⟨as, rfl, h⟩
  · rintro d ds L S ⟨as, e, h⟩
    cases as with
    | nil => cases e
    | cons a as =>
      cases e
      obtain ⟨L1, e1, w⟩ := step a as L S h
      exact ⟨L1, e1, w.mono fun fl L2 S2 q => by
        cases fl with
        | nx => exact ⟨_, rfl, q⟩
        | ct => exact ⟨_, rfl, q⟩
        | bk => exact q
        | rt d => exact q⟩
  · rintro L S ⟨as, e, h⟩
    cases as with
    | nil => exact done L S h
    | cons a as => cases e
theorem wps_en (J : Int → List α → Ls → Sto → Prop)
    (step : ∀ j a as L S, J j (a :: as) L S → ∃ L1, tgA t (.tup [.int j, f a]) L = some L1 ∧ wps (b L1 S) fun fl L2 S2 => match fl with
      | .nx => J (j + 1) as L2 S2
      | .ct => J (j + 1) as L2 S2
      | .bk => P .nx L2 S2
      | fl => P fl L2 S2)
    (done : ∀ j L S, J j [] L S → P .nx L S) (j : Int) (as : List α) (L : Ls) (S : Sto) (h : J j as L S) : wps (forL none all t b (enF j (as.map f)) L S) P := by
  refine wps_for (fun ds L S => ∃ j as, ds = enF j (as.map f) ∧ J j as L S) ?_ ?_ _ L S ⟨j, as, rfl, h⟩
  · rintro d ds L S ⟨j, as, e, h⟩
    cases as with
    | nil => cases e
    | cons a as =>
      rw [List.map_cons, enF_cons] at e
      cases e
      obtain ⟨L1, e1, w⟩ := step j a as L S h
      exact ⟨L1, e1, w.mono fun fl L2 S2 q => by
        cases fl with
        | nx => exact ⟨_, _, rfl, q⟩
        | ct => exact ⟨_, _, rfl, q⟩
        | bk => exact q
        | rt d => exact q⟩
  · rintro L S ⟨j, as, e, h⟩
    cases as with
    | nil => exact done j L S h
    | cons a as => rw [List.map_cons, enF_cons] at e; cases e
theorem wps_rng (J : Int → Nat → Ls → Sto → Prop)
    (step : ∀ j n L S, J j (n + 1) L S → ∃ L1, tgA t (.int j) L = some L1 ∧ wps (b L1 S) fun fl L2 S2 => match fl with
      | .nx => J (j + 1) n L2 S2
      | .ct => J (j + 1) n L2 S2
      | .bk => P .nx L2 S2
      | fl => P fl L2 S2)
    (done : ∀ j L S, J j 0 L S → P .nx L S) (j : Int) (n : Nat) (L : Ls) (S : Sto) (h : J j n L S) : wps (forL none all t b (rngI j n) L S) P := by
  refine wps_for (fun ds L S => ∃ j n, ds = rngI j n ∧ J j n L S) ?_ ?_ _ L S ⟨j, n, rfl, h⟩
  · rintro d ds L S ⟨j, n, e, h⟩
    cases n with
    | zero => cases e
    | succ n =>
      rw [rngI_succ] at e
      cases e
      obtain ⟨L1, e1, w⟩ := step j n L S h
      exact ⟨L1, e1, w.mono fun fl L2 S2 q => by
        cases fl with
        | nx => exact ⟨_, _, rfl, q⟩
        | ct => exact ⟨_, _, rfl, q⟩
        | bk => exact q
        | rt d => exact q⟩
  · rintro L S ⟨j, n, e, h⟩
    cases n with
    | zero => exact done j L S h
    | succ n => rw [rngI_succ] at e; cases e
theorem lc_ea (J : List α → List D → Sto → Prop)
    (step : ∀ a as acc S, J (a :: as) acc S → ∃ L1, tgA t (f a) Lw = some L1 ∧ @wp noXP _ (tt L1 S) fun b S1 => if b = true then @wp noXP _ (te L1 S1) fun y S2 => acc.length < sizeLine ∧ J as (acc ++ [y]) S2 else J as acc S1)
    (done : ∀ S acc, J [] acc S → PL acc S) (as : List α) (S : Sto) (acc : List D) (h : J as acc S) : wp (lcLoop none all t tt te Lw (as.map f) S acc) PL := by
  refine wp_lc (fun ds S acc => ∃ as, ds = as.map f ∧ J as acc S) ?_ ?_ _ S acc ⟨as, rfl, h⟩
  · rintro d ds S acc ⟨as, e, h⟩
    cases as with
    | nil => cases e
    | cons a as =>
      cases e
      obtain ⟨L1, e1, w⟩ := step a as acc S h
      refine ⟨L1, e1, w.mono fun b S1 q => ?_⟩
      split
      · rename_i hb
        rw [if_pos hb] at q
        exact q.mono fun y S2 q => ⟨q.1, _, rfl, q.2⟩
      · rename_i hb
        rw [if_neg hb] at q
        exact ⟨_, rfl, q⟩
  · rintro S acc ⟨as, e, h⟩
    cases as with
    | nil => exact done S acc h
    | cons a as => cases e
theorem lc_en (J : Int → List α → List D → Sto → Prop)
    (step : ∀ j a as acc S, J j (a :: as) acc S → ∃ L1, tgA t (.tup [.int j, f a]) Lw = some L1 ∧ @wp noXP _ (tt L1 S) fun b S1 => if b = true then @wp noXP _ (te L1 S1) fun y S2 => acc.length < sizeLine ∧ J (j + 1) as (acc ++ [y]) S2 else J (j + 1) as acc S1)
    (done : ∀ j S acc, J j [] acc S → PL acc S) (j : Int) (as : List α) (S : Sto) (acc : List D) (h : J j as acc S) : wp (lcLoop none all t tt te Lw (enF j (as.map f)) S acc) PL := by
  refine wp_lc (fun ds S acc => ∃ j as, ds = enF j (as.map f) ∧ J j as acc S) ?_ ?_ _ S acc ⟨j, as, rfl, h⟩
  · rintro d ds S acc ⟨j, as, e, h⟩
    cases as with
    | nil => cases e
    | cons a as =>
      rw [List.map_cons, enF_cons] at e
      cases e
      obtain ⟨L1, e1, w⟩ := step j a as acc S h
      refine ⟨L1, e1, w.mono fun b S1 q => ?_⟩
      split
      · rename_i hb
        rw [if_pos hb] at q
        exact q.mono fun y S2 q => ⟨q.1, _, _, rfl, q.2⟩
      · rename_i hb
        rw [if_neg hb] at q
        exact ⟨_, _, rfl, q⟩
  · rintro S acc ⟨j, as, e, h⟩
    cases as with
    | nil => exact done j S acc h
    | cons a as => rw [List.map_cons, enF_cons] at e; cases e
theorem lc_rng (J : Int → Nat → List D → Sto → Prop)
    (step : ∀ j n acc S, J j (n + 1) acc S → ∃ L1, tgA t (.int j) Lw = some L1 ∧ @wp noXP _ (tt L1 S) fun b S1 => if b = true then @wp noXP _ (te L1 S1) fun y S2 => acc.length < sizeLine ∧ J (j + 1) n (acc ++ [y]) S2 else J (j + 1) n acc S1)
    (done : ∀ j S acc, J j 0 acc S → PL acc S) (j : Int) (n : Nat) (S : Sto) (acc : List D) (h : J j n acc S) : wp (lcLoop none all t tt te Lw (rngI j n) S acc) PL := by
  refine wp_lc (fun ds S acc => ∃ j n, ds = rngI j n ∧ J j n acc S) ?_ ?_ _ S acc ⟨j, n, rfl, h⟩
  · rintro d ds S acc ⟨j, n, e, h⟩
    cases n with
    | zero => cases e
    | succ n =>
      rw [rngI_succ] at e
      cases e
      obtain ⟨L1, e1, w⟩ := step j n acc S h
      refine ⟨L1, e1, w.mono fun b S1 q => ?_⟩
      split
      · rename_i hb
        rw [if_pos hb] at q
        exact q.mono fun y S2 q => ⟨q.1, _, _, rfl, q.2⟩
      · rename_i hb
        rw [if_neg hb] at q
        exact ⟨_, _, rfl, q⟩
  · rintro S acc ⟨j, n, e, h⟩
    cases n with
    | zero => exact done j S acc h
    | succ n => rw [rngI_succ] at e; cases e
/-- a comprehension without effects -/
theorem lc_eq {S : Sto} (as : List α) (h : ∀ a ∈ as, ∃ L1, tgA t (f a) Lw = some L1 ∧ tt L1 S = .ok true S ∧ te L1 S = .ok (g a) S) (hz : as.length ≤ sizeLine) : lcLoop none all t tt te Lw (as.map f) S [] = .ok (as.map g) S := by
  have key : ∀ (as : List α) (acc : List D), (∀ a ∈ as, ∃ L1, tgA t (f a) Lw = some L1 ∧ tt L1 S = .ok true S ∧ te L1 S = .ok (g a) S) → acc.length + as.length ≤ sizeLine → lcLoop none all t tt te Lw (as.map f) S acc = .ok (acc ++ as.map g) S := by
    intro as
    induction as with
    | nil => intro acc _ _; rw [List.map_nil, lcLoop, ckd, List.map_nil, List.append_nil]
    | cons a as ih =>
      intro acc h hz
      obtain ⟨L1, e1, e2, e3⟩ := h a List.mem_cons_self
      rw [List.length_cons] at hz
      rw [List.map_cons, lcLoop, ckd, e1]
      dsimp only
      rw [e2]
      dsimp only [R.nox, R.bind]
      rw [if_pos rfl, e3]
      dsimp only
      rw [if_pos (by omega), ih (acc ++ [g a]) (fun x hx => h x (List.mem_cons_of_mem _ hx)) (by rw [List.length_append, List.length_singleton]; omega), List.map_cons, List.append_assoc, List.singleton_append]
  have := key as [] h (by rw [List.length_nil]; omega)
  rw [this, List.nil_append]
end
theorem ints_map {α : Type} (f : α → Int) : ∀ s : List α, intsD (s.map fun c => D.int (f c)) = some (s.map f)
  | [] => rfl
  | c :: s => by rw [List.map_cons, intsD, ints_map f s]; rfl
theorem sum_map {α : Type} (f : α → Int) (s : List α) : bSum [.lst (s.map fun c => D.int (f c))] = some (.int (s.map f).sum) := by
  show (intsD (s.map fun c => D.int (f c))).map (fun ns => D.int ns.sum) = _
  rw [ints_map]
  rfl
theorem wp.eq {α : Type} {r : R α} {P : α → Sto → Prop} {a : α} {S : Sto} (e : r = .ok a S) (h : P a S) : wp r P := by rw [e]; exact ⟨h⟩
theorem ok_of {r : R D} {d : D} {S : Sto} (h : @wp noXP _ r fun a S' => a = d ∧ S' = S) : r = .ok d S := by
  obtain ⟨a, S', e, rfl, rfl⟩ := h.ex
  exact e
theorem atI_get {α : Type} {xs : List α} {i : Int} {a : α} (h0 : 0 ≤ i) (h : xs[i.toNat]? = some a) : L2.atI xs i = some a := by
  obtain ⟨n, rfl⟩ := Int.eq_ofNat_of_zero_le h0
  exact atI_some (by simpa using h)
/-! plain values -/
mutual
def pl : D → Bool
  | .non => true
  | .bl _ => true
  | .int _ => true
  | .str _ => true
  | .tup ds => decide (ds.length ≤ 100000) && plL ds
  | .lst ds => decide (ds.length ≤ 100000) && plL ds
  | _ => false
def plL : List D → Bool
  | [] => true
  | d :: ds => pl d && plL ds
end
mutual
def dp : D → Nat
  | .tup ds => dpL ds + 1
  | .lst ds => dpL ds + 1
  | _ => 0
def dpL : List D → Nat
  | [] => 0
  | d :: ds => max (dp d) (dpL ds)
end
theorem plL_mem : ∀ {ds : List D} {d : D}, plL ds = true → d ∈ ds → pl d = true
  | [], _, _, h => by cases h
  | e :: ds, d, h, hd => by
    rw [plL, Bool.and_eq_true] at h
    rcases List.mem_cons.mp hd with rfl | hd
    · exact h.1
    · exact plL_mem h.2 hd
theorem dpL_mem : ∀ {ds : List D} {d : D}, d ∈ ds → dp d ≤ dpL ds
  | [], _, h => by cases h
  | e :: ds, d, hd => by
    rw [dpL]
    rcases List.mem_cons.mp hd with rfl | hd
    · exact Nat.le_max_left _ _
    · exact Nat.le_trans (dpL_mem hd) (Nat.le_max_right _ _)
theorem pair_self : ∀ ds : List D, pairI ds ds = ds.map fun d => .tup [d, d]
  | [] => rfl
  | d :: ds => by rw [pairI_cons, pair_self ds]; rfl
theorem all_true {α : Type} (s : List α) : bAll [.lst (s.map fun _ => D.bl true)] = some (.bl true) := by
  have := all_map (fun _ : α => true) s
  rw [this]
  simp
/-! what may be compared -/
mutual
def okD : D → Bool
  | .non => true
  | .bl _ => true
  | .int _ => true
  | .str x => x.all fun c => decide (c < 0x110000)
  | .tup ds => okL ds
  | .lst ds => okL ds
  | _ => false
def okL : List D → Bool
  | [] => true
  | d :: ds => okD d && okL ds
end
theorem strOk_of {x : List Nat} (h : (x.all fun c => decide (c < 0x110000)) = true) : PyData.strOk ⟨x.toArray⟩ = true := by
  simpa [PyData.strOk] using h
mutual
theorem okD_py : ∀ d : D, okD d = true → ∃ p, toPy d = some p ∧ p.canLay0 = true ∧ p.depth = dp d
  | .non, _ => ⟨_, rfl, rfl, rfl⟩
  | .bl _, _ => ⟨_, rfl, rfl, rfl⟩
  | .int _, _ => ⟨_, rfl, rfl, rfl⟩
  | .str x, h => ⟨_, rfl, strOk_of h, rfl⟩
  | .tup ds, h => by
    obtain ⟨ps, e, c, d⟩ := okL_py ds h
    exact ⟨.tuple ps, by rw [toPy, e]; rfl, c, by rw [PyData.depth, d, dp]⟩
  | .lst ds, h => by
    obtain ⟨ps, e, c, d⟩ := okL_py ds h
    exact ⟨.list ps, by rw [toPy, e]; rfl, c, by rw [PyData.depth, d, dp]⟩
  | .obj _, h => by cases h
  | .gl _, h => by cases h
  | .ty _, h => by cases h
  | .scr _, h => by cases h
theorem okL_py : ∀ ds : List D, okL ds = true → ∃ ps, toPyL ds = some ps ∧ PyData.canLayAll0 ps = true ∧ PyData.depthAll ps = dpL ds
  | [], _ => ⟨[], rfl, rfl, rfl⟩
  | d :: ds, h => by
    rw [okL, Bool.and_eq_true] at h
    obtain ⟨p, e1, c1, d1⟩ := okD_py d h.1
    obtain ⟨ps, e2, c2, d2⟩ := okL_py ds h.2
    refine ⟨p :: ps, by rw [toPyL, e1, e2], by rw [PyData.canLayAll0, c1, c2]; rfl, by rw [PyData.depthAll, d1, d2, dpL]⟩
end
theorem okD_shp {d : D} (h : okD d = true) (hd : dp d ≤ 64) : shp d = true := by
  obtain ⟨p, e, c, q⟩ := okD_py d h
  unfold shp
  rw [e]
  show (p.canLay0 && decide (p.depth ≤ 64)) = true
  rw [c, q, decide_eq_true hd]
  rfl
def dInts (is : List Int) : List D := is.map .int
theorem okL_ints : ∀ is : List Int, okL (is.map .int) = true
  | [] => rfl
  | i :: is => by rw [List.map_cons, okL, okL_ints is]; rfl
theorem dpL_ints : ∀ is : List Int, dpL (is.map .int) = 0
  | [] => rfl
  | i :: is => by rw [List.map_cons, dpL, dpL_ints is]; rfl
theorem shp_ints (is : List Int) : shp (.tup (is.map .int)) = true := okD_shp (okL_ints is) (by rw [dp, dpL_ints]; decide)
theorem eqv_ints : ∀ is js : List Int, eqvL (is.map .int) (js.map .int) = decide (is = js)
  | [], [] => rfl
  | [], _ :: _ => rfl
  | _ :: _, [] => rfl
  | i :: is, j :: js => by
    rw [List.map_cons, List.map_cons, eqvL, eqv_ints is js, eqv]
    by_cases h : i = j
    · subst h; simp
    · simp [h]
theorem eqB_ints (is js : List Int) : eqB (.tup (is.map .int)) (.tup (js.map .int)) = some (decide (is = js)) := by
  have e : eqB (.tup (is.map .int)) (.tup (js.map .int)) = if shp (.tup (is.map .int)) && shp (.tup (js.map .int)) then some (eqvL (is.map .int) (js.map .int)) else none := rfl
  rw [e, shp_ints, shp_ints, eqv_ints]
  rfl
theorem cEq_ints (is js : List Int) : cEq (.tup (is.map .int)) (.tup (js.map .int)) = some (.bl (decide (is = js))) := by
  unfold cEq; rw [eqB_ints]; rfl
theorem cNe_ints (is js : List Int) : cNe (.tup (is.map .int)) (.tup (js.map .int)) = some (.bl (!decide (is = js))) := by
  unfold cNe; rw [eqB_ints]; rfl
theorem g_ift {A B : Prop} (h : A) : if true = true then A else B := h
theorem g_iff {A B : Prop} (h : B) : if false = true then A else B := h
theorem g_ifd {p : Prop} [Decidable p] {A B : Prop} (h1 : p → A) (h2 : ¬ p → B) : if decide p = true then A else B := by
  by_cases h : p
  · rw [if_pos (decide_eq_true h)]; exact h1 h
  · rw [if_neg (by simp [h])]; exact h2 h
theorem shp_lints (is : List Int) : shp (.lst (is.map .int)) = true := okD_shp (okL_ints is) (by rw [dp, dpL_ints]; decide)
theorem eqB_lints (is js : List Int) : eqB (.lst (is.map .int)) (.lst (js.map .int)) = some (decide (is = js)) := by
  have e : eqB (.lst (is.map .int)) (.lst (js.map .int)) = if shp (.lst (is.map .int)) && shp (.lst (js.map .int)) then some (eqvL (is.map .int) (js.map .int)) else none := rfl
  rw [e, shp_lints, shp_lints, eqv_ints]
  rfl
theorem cEq_lints (is js : List Int) : cEq (.lst (is.map .int)) (.lst (js.map .int)) = some (.bl (decide (is = js))) := by
  unfold cEq; rw [eqB_lints]; rfl
theorem cNe_lints (is js : List Int) : cNe (.lst (is.map .int)) (.lst (js.map .int)) = some (.bl (!decide (is = js))) := by
  unfold cNe; rw [eqB_lints]; rfl
end Rf

set_option Elab.async false
set_option linter.all false
set_option maxRecDepth 100000
set_option maxHeartbeats 0
/-! Rf, part 19: extend, f-strings, displays that are looked into at once. -/
namespace Rf
open PySem L2 TL
variable {xp : ExP}

section
variable {X : Cx} {W : WX} {e : Expr} {m : EM} {pos pos' : Pos}
theorem pe_ext {o : Expr} {apos : Pos} {to te : TE} (ho : PE X o to) (he : PE X e te) (hs : noStar e = true) (hsup : notSuper o = true) (hl : (apos.endLine == pos.line) = true) :
    PE X (.Call (.Attribute o "extend" apos) [e] [] pos) (tBM X.K "list" rExtend to (tCons te tNil)) :=
  pe_bm PySem.F.plainAttrs_list PySem.F.slot_list_extend PySem.F.type_list_extend mt_extend ho (pa_cons he pa_nil (star_cons hs)) (not_super hsup) (by rw [star_cons hs]; rfl) hl (star_cons hs) rfl
def sExt (i : Nat) (m : EM) : SM := fun L S => match L[i]? with
  | some (.o (.lst ds)) => (m L S).st L fun d S1 => match d with
    | .lst es => if ds.length + es.length ≤ sizeLine then .ok .nx (L.set i (.o (.lst (ds ++ es)))) S1 else .no
    | _ => .no
  | _ => .no
theorem ss_ext {i : Nat} {x : Str} {p apos : Pos} (hv : PE X (.Name x p) (tVar i)) (he : SE X W e m) (hs : noStar e = true) (hl : (apos.endLine == pos.line) = true) : SS X W (.Expr (.Call (.Attribute (.Name x p) "extend" apos) [e] [] pos) pos') (sExt i m) :=
  PS.imp (ps_expr (pe_ext hv he hs rfl hl) rfl) fun D σ H ⟨L, S, g, B, gB, f, p⟩ => by
    unfold sExt at p
    split at p
    · rename_i ds q
      obtain ⟨a, ha, oa⟩ := f.loc.own i _ q
      obtain ⟨us, hu, ru⟩ := id oa.1
      refine ⟨_, ha, .inl ⟨rfl, us, SqL.of hu⟩, L, S, g, f.loc, f.wf, st_e f p fun d S1 v H1 g1 f1 e1 r p1 => ?_⟩
      obtain ⟨us1, hu1, ru1⟩ := (oa.ext e1).1
      cases d with
      | lst es =>
        dsimp only at p1
        by_cases hz : ds.length + es.length ≤ sizeLine
        · rw [if_pos hz] at p1
          obtain ⟨b, zs, rfl, hF, hb, rb⟩ := r
          obtain ⟨f2, pe⟩ := f1.chg q ha (ru1.append rb)
          exact ⟨a, b, us1, zs, rfl, rfl, hu1, hb, by rw [ru1.length, rb.length]; exact hz, p1 σ _ g1 f2 pe⟩
        · rw [if_neg hz] at p1; exact p1.elim
      | _ => exact p1.elim
    · exact p.elim
/-! ### f-strings -/
def fmtD : D → Option D
  | .str x => if x.length ≤ sizeLine then some (.str x) else none
  | .int i => if i.natAbs.log2 < 1920 then some (.str (intS i)) else none
  | _ => none
theorem se_fmt (he : SE X W e m) : SE X W (.FormattedValue e (-1) none pos) (eM0 fmtD m) :=
  PE.imp (pe_fmt he) fun σ H Q ⟨L, S, g, l, w, p⟩ => ⟨L, S, g, l, w, by
    unfold eM0 at p
    refine Post.bind p fun d S1 v H1 g1 e1 w1 r1 p1 => ?_
    cases d with
    | str x =>
      cases r1
      by_cases hz : x.length ≤ sizeLine
      · rw [show fmtD (.str x) = some (.str x) from if_pos hz] at p1
        exact .inl ⟨_, rfl, by rw [mk_len]; exact hz, Post.ret p1 w1 rfl⟩
      · rw [show fmtD (.str x) = none from if_neg hz] at p1; exact p1.elim
    | int i =>
      cases r1
      by_cases hz : i.natAbs.log2 < 1920
      · rw [show fmtD (.int i) = some (.str (intS i)) from if_pos hz] at p1
        exact .inr ⟨_, rfl, hz, Post.ret p1 w1 (congrArg V.str (toString_intS i))⟩
      · rw [show fmtD (.int i) = none from if_neg hz] at p1; exact p1.elim
    | _ => exact p1.elim⟩
def jsL : List EM → List Nat → EM
  | [], acc => fun _ S => .ok (.str acc) S
  | m :: ms, acc => fun L S => (m L S).bind fun d S1 => match d with
    | .str y => if (acc ++ y).length ≤ sizeLine then jsL ms (acc ++ y) L S1 else .no
    | _ => .no
def eJs (ms : List EM) : EM := jsL ms []
theorem js_read {k : Kx} {σ : L2.St} {Q : VK} : ∀ (ms : List EM) (acc : List Nat) (H : Hp), tE k W (jsL ms acc) σ H Q → tJs (ms.map (tE k W)) ⟨acc.toArray⟩ σ H fun out H1 => Q (.str out) H1
  | [], acc, H, ⟨L, S, g, l, w, p⟩ => Post.ret p w rfl
  | m :: ms, acc, H, ⟨L, S, g, l, w, p⟩ => by
    refine ⟨L, S, g, l, w, Post.bind p fun d S1 v H1 g1 e1 w1 r1 p1 => ?_⟩
    cases d with
    | str y =>
      cases r1
      dsimp only at p1
      by_cases hz : (acc ++ y).length ≤ sizeLine
      · rw [if_pos hz] at p1
        refine ⟨_, rfl, by rw [mk_app, mk_len]; exact hz, ?_⟩
        rw [mk_app]
        exact js_read ms (acc ++ y) H1 ⟨L, S1, g1, l.ext e1, w1, p1⟩
      · rw [if_neg hz] at p1; exact p1.elim
    | _ => exact p1.elim
theorem se_js {v1 v2 : Expr} {rest : List Expr} {ms : List EM} (h : PJ X (v1 :: v2 :: rest) (ms.map (tE (kx X) W))) : SE X W (.JoinedStr (v1 :: v2 :: rest) pos) (eJs ms) :=
  PE.imp (pe_joined h) fun σ H Q q => js_read ms [] H q
theorem se_js1 (he : SE X W e m) : SE X W (.JoinedStr [e] pos) m := PE.imp (pe_joined1 he) fun σ H Q q => q
/-! ### a display of texts that is looked into at once -/
abbrev Ds := List (List Nat × List Nat)
def Ds.tb (t : Ds) : Tb := t.map fun q => (q.1, .str q.2)
def sTx (x : List Nat) : Str := ⟨x.toArray⟩
def Ds.trs (t : Ds) : List (TE × TE) := t.map fun q => (tC (.str (sTx q.1)), tC (.str (sTx q.2)))
def Ds.kvs (t : Ds) : List (Key × V) := t.map fun q => (.inr (sTx q.1), .str (sTx q.2))
theorem tPairs_ds {σ : L2.St} {H : Hp} : ∀ (t : Ds) (Q : List (V × V) → Hp → Prop), Q (t.kvs.map fun kv => (kV kv.1, kv.2)) H → tPairs t.trs σ H Q
  | [], Q, h => h
  | q :: t, Q, h => by
    show tPairs (Ds.trs t) σ H _
    exact tPairs_ds t _ h
theorem valV_ds {z : List Nat} {y : List Nat} : ∀ t : Ds, t.tb.get z = some (.str y) → valV t.kvs (.inr (sTx z)) = some (.str (sTx y))
  | [], h => by cases h
  | q :: t, h => by
    unfold Tb.get Ds.tb at h
    unfold valV Ds.kvs
    rw [List.map_cons, List.find?_cons] at h ⊢
    by_cases e : q.1 = z
    · subst e
      simp at h ⊢
      rw [h]
    · have e1 : ((q.1, D.str q.2).1 == z) = false := by simpa using e
      have e2 : decide ((((Sum.inr (sTx q.1)) : Key), V.str (sTx q.2)).1 = Sum.inr (sTx z)) = false := by
        rw [decide_eq_false_iff_not]
        intro h2
        apply e
        have h3 : sTx q.1 = sTx z := by injection h2
        have := congrArg (fun s : Str => s.cps.toList) h3
        simpa [sTx] using this
      rw [e1] at h
      rw [e2]
      exact valV_ds t h
theorem get_ds {z : List Nat} {r : D} {t : Ds} (h : t.tb.get z = some r) : ∃ y, r = .str y := by
  unfold Tb.get Ds.tb at h
  rw [Option.map_eq_some_iff] at h
  obtain ⟨p, hp, rfl⟩ := h
  have := List.mem_of_find?_eq_some hp
  obtain ⟨q, _, rfl⟩ := List.mem_map.mp this
  exact ⟨_, rfl⟩
theorem se_dsp {t : Ds} {keys : List (Option Expr)} {values : List Expr} {p2 : Pos} (h : PPs X p2 keys values t.trs) (hall : keys.all (·.isSome) = true) (hl : keys.length = values.length) (h0 : keys ≠ [])
    (h15 : keys.length ≤ 15) (ht : t.length ≤ 15) (hm : mergeK [] t.kvs = t.kvs) (hu : X.A.units + 64 < cLine) (he : SE X W e m) (hn : NoSl e) : SE X W (.Subscript (.Dict keys values p2) e pos) (eIxT t.tb m) :=
  PE.imp (pe_dget (by omega) (pe_disp h hall hl h0 h15) he hn) fun σ H Q ⟨L, S, g, l, w, p⟩ q hq => by
    refine tPairs_ds t _ ⟨upd_same, t.kvs, rfl, by unfold Ds.kvs; rw [List.length_map]; exact ht, ?_⟩
    rw [hm]
    have e0 : Ext H g (upd (upd H q (.dK [])) q (.dK t.kvs)) g := by rw [upd_upd]; exact Ext.new hq
    have w0 : WF (kx X) (upd (upd H q (.dK [])) q (.dK t.kvs)) g S := by rw [upd_upd]; exact w.new hq
    refine ⟨L, S, g, l.ext e0, w0, Post.bind (Post.from p e0) fun d S1 v H1 g1 e1 w1 r1 p1 => ?_⟩
    cases d with
    | str z =>
      cases r1
      cases hg : t.tb.get z with
      | none => dsimp only at p1; rw [hg] at p1; exact p1.elim
      | some r =>
        dsimp only at p1; rw [hg] at p1
        obtain ⟨y, rfl⟩ := get_ds hg
        have hk : H1 q = some (.dK t.kvs) := e1.keep q _ upd_same fun i hi e => by
          obtain ⟨u, hu⟩ := w.ρt hi
          rw [e, hq] at hu
          cases hu
        exact ⟨q, .str (sTx y), rfl, .inl ⟨t.kvs, .inr (sTx z), .inl hk, rfl, (valV_ds t hg).symm⟩, Post.ret p1 w1 rfl⟩
    | _ => exact p1.elim
theorem pe_strq {x : Str} {l : List Nat} {j : Nat} (h : x = sTx l) : PE X (.Constant (.str x) j pos) (tC (.str (sTx l))) := by rw [← h]; exact pe_str
def bStr2 : List D → Option D
  | [.int i] => if i.natAbs.log2 < 1920 then some (.str (intS i)) else none
  | [.str x] => some (.str x)
  | _ => none
theorem bStr2_ok : CallC X (.type "str") bStr2 := by
  rintro ds res h pins s σ H xs us Q I r ⟨g, S, w, c, q⟩
  unfold bStr2 at h
  split at h
  · split at h
    · rename_i hz
      cases h
      obtain ⟨v, rfl, cv⟩ := c1 c
      cases cv
      exact call_str_int pins s σ H _ us Q I r ⟨_, rfl, hz, scalar_fin q w (congrArg V.str (toString_intS _))⟩
    · cases h
  · cases h
    obtain ⟨v, rfl, cv⟩ := c1 c
    cases cv
    exact SkE.call_str_str pins s σ H _ us Q I r ⟨_, rfl, scalar_fin q w rfl⟩
  · cases h
end
/-! ### list + list, a new list -/
section
variable {X : Cx} {W : WX} {a b : Expr} {ma mb : EM} {pos : Pos}
def fCat (ma mb : EM) : Ls → Sto → R (List D) := fun L S => (ma L S).bind fun x S1 => (mb L S1).bind fun y S2 => match deref S2 x, deref S2 y with
  | .lst ds, .lst es => if ds.length + es.length ≤ sizeLine then .ok (ds ++ es) S2 else .no
  | _, _ => .no
theorem sf_cat (ha : SP X W a ma) (hb : SP X W b mb) : SF X W (.BinOp a .Add b pos) (fCat ma mb) :=
  PE.imp (pe_op op_cat ha hb) fun σ H Q ⟨L, S, g, l, w, p⟩ => ⟨L, S, g, l, w, Post.bind p fun x S1 xv H1 g1 e1 w1 r1 p1 => ⟨L, S1, g1, l.ext e1, w1, Post.bind p1 fun y S2 yv H2 g2 e2 w2 r2 p2 => by
    have l2 := (l.ext e1).ext e2
    have c1 := (r1.ext e2.toPExt).c l2 w2
    have c2 := r2.c l2 w2
    cases qx : deref S2 x with
    | lst ds =>
      cases qy : deref S2 y with
      | lst es =>
        rw [qx] at c1
        rw [qy] at c2
        rw [qx, qy] at p2
        dsimp only at p2
        by_cases hz : ds.length + es.length ≤ sizeLine
        · rw [if_pos hz] at p2
          obtain ⟨a', vs, rfl, hva, ra⟩ := c1
          obtain ⟨b', us, rfl, hub, rb⟩ := c2
          exact ⟨a', b', vs, us, rfl, rfl, hva, hub, by rw [ra.length, rb.length]; exact hz, fun q hq => f_fin (e1.trans e2) w2 (ra.append rb) p2 hq⟩
        · rw [if_neg hz] at p2; exact p2.elim
      | _ => rw [qx, qy] at p2; exact p2.elim
    | _ => rw [qx] at p2; exact p2.elim⟩⟩
end
/-! ### the walk's rules -/
section
variable {P : D → Sto → Prop} {PS : Fl → Ls → Sto → Prop} {L : Ls} {S : Sto} {m : EM} {ms : List EM} {i : Nat} {acc : List Nat}
instance : Wp (eJs ms L S) P (wp (jsL ms [] L S) P) := ⟨id⟩
instance : Wp (jsL [] acc L S) P (P (.str acc) S) := ⟨fun h => ⟨h⟩⟩
instance : Wp (jsL (m :: ms) acc L S) P (wp (m L S) fun d S1 => ∃ y, d = .str y ∧ (acc ++ y).length ≤ sizeLine ∧ wp (jsL ms (acc ++ y) L S1) P) := ⟨fun h => by
  rw [jsL, wp_bind]
  refine h.mono fun d S1 ⟨y, e, hz, h⟩ => ?_
  subst e
  dsimp only
  rw [if_pos hz]
  exact h⟩
instance : Ws (sExt i m L S) PS (∃ ds, L[i]? = some (.o (.lst ds)) ∧ wp (m L S) fun d S1 => ∃ es, d = .lst es ∧ ds.length + es.length ≤ sizeLine ∧ PS .nx (L.set i (.o (.lst (ds ++ es)))) S1) := ⟨fun ⟨ds, e, h⟩ => by
  unfold sExt
  rw [e]
  dsimp only
  rw [wps_st]
  refine h.mono fun d S1 ⟨es, e, hz, h⟩ => ?_
  subst e
  dsimp only
  rw [if_pos hz]
  exact ⟨h⟩⟩
instance {a b : EM} {PL : List D → Sto → Prop} : Wp (fCat a b L S) PL (wp (a L S) fun x S1 => wp (b L S1) fun y S2 => ∃ ds es, deref S2 x = .lst ds ∧ deref S2 y = .lst es ∧ ds.length + es.length ≤ sizeLine ∧ PL (ds ++ es) S2) := ⟨fun h => by
  unfold fCat
  rw [wp_bind]
  refine h.mono fun x S1 h => ?_
  rw [wp_bind]
  refine h.mono fun y S2 ⟨ds, es, e1, e2, hz, h⟩ => ?_
  rw [e1, e2]
  dsimp only
  rw [if_pos hz]
  exact ⟨h⟩⟩
end
end Rf

set_option Elab.async false
set_option linter.all false
set_option maxRecDepth 100000
set_option maxHeartbeats 0
/-! Rf, part 20: ints of texts, while loops, walkers that stop. -/
namespace Rf
open PySem L2 TL
variable {xp : ExP}

def bIntT : List D → Option D
  | [.int i] => some (.int i)
  | [.bl b] => some (.int (if b then 1 else 0))
  | [.str x] => if x.length ≤ 640 then (intText? ⟨x.toArray⟩).map .int else none
  | _ => none
theorem bIntT_ok {X : Cx} : CallC X (.type "int") bIntT := by
  intro ds res h
  by_cases hs : ∃ x, ds = [.str x]
  · obtain ⟨x, rfl⟩ := hs
    intro pins s σ H xs us Q I r ⟨g, S, w, c, q⟩
    have h' : (if x.length ≤ 640 then (intText? ⟨x.toArray⟩).map D.int else none) = some res := h
    split at h'
    · rename_i hz
      rw [Option.map_eq_some_iff] at h'
      obtain ⟨n, hn, rfl⟩ := h'
      obtain ⟨v, rfl, cv⟩ := c1 c
      cases cv
      exact call_int_str pins s σ H _ us Q I r ⟨_, n, rfl, hn, by rw [mk_len]; exact hz, scalar_fin q w rfl⟩
    · cases h'
  · have h2 : bInt ds = some res := by
      unfold bIntT at h
      split at h
      · exact h
      · exact h
      · exact absurd ⟨_, rfl⟩ hs
      · cases h
    exact bInt_ok ds res h2
theorem intText_intS {i : Int} (h : (intS i).length ≤ 4300) : intText? ⟨(intS i).toArray⟩ = some i := by
  cases i with
  | ofNat n =>
    have h0 : (intS (Int.ofNat n)) = numL n := rfl
    rw [h0] at h ⊢
    have e := intText_digits (x := ⟨(numL n).toArray⟩) (by simpa using numL_digits n) (by simpa using numL_ne n) (by rw [mk_len]; exact h)
    have e2 : (⟨(numL n).toArray⟩ : Str).cps.toList = numL n := by simp
    rw [e2, numL_val] at e
    exact e
  | negSucc n =>
    have h0 : (intS (Int.negSucc n)) = 45 :: numL (n + 1) := rfl
    rw [h0] at h ⊢
    have e := intText_neg (x := ⟨(45 :: numL (n + 1)).toArray⟩) (cs := numL (n + 1)) (by simp) (numL_digits _) (numL_ne _) (by rw [mk_len]; exact h)
    rw [numL_val] at e
    rw [e]
    rfl
section
variable {c : Ls → Sto → R Bool} {b : SM} {P : Fl → Ls → Sto → Prop}
theorem wps_whl (I : Nat → Ls → Sto → Prop)
    (step : ∀ m L S, I m L S → wp (c L S) fun t S1 => (t = true → wps (b L S1) fun fl L2 S2 => match fl with
      | .nx => ∃ m', m' < m ∧ I m' L2 S2
      | .ct => ∃ m', m' < m ∧ I m' L2 S2
      | .bk => P .nx L2 S2
      | fl => P fl L2 S2) ∧ (t = false → P .nx L S1)) {m : Nat} {L : Ls} {S : Sto} (h : I m L S) : wps (sWhl c b L S) P := by
  have key : ∀ (m : Nat) (L : Ls) (S : Sto), I m L S → ∃ n, wps (whl c b n L S) P := by
    intro m
    induction m using Nat.strongRecOn with
    | ind m ih =>
      intro L S h
      have st := step m L S h
      cases e : c L S with
      | no => rw [e] at st; exact st.out.elim
      | ex x S1 => rw [e] at st; exact ⟨1, by rw [whl, e]; exact ⟨st.out⟩⟩
      | ok t S1 =>
      rw [e] at st
      obtain ⟨h1, h2⟩ := st.out
      cases t with
      | false => exact ⟨1, by rw [whl, e]; exact ⟨h2 rfl⟩⟩
      | true =>
        have h1 := h1 rfl
        cases q : b L S1 with
        | no => rw [q] at h1; exact h1.out.elim
        | ex x L2 S2 => rw [q] at h1; exact ⟨1, by rw [whl, e]; dsimp only [R.st]; rw [if_pos rfl, q]; exact ⟨h1.out⟩⟩
        | ok fl L2 S2 =>
          rw [q] at h1
          cases fl with
          | nx =>
            obtain ⟨m', hm, hi⟩ := h1.out
            obtain ⟨n, hn⟩ := ih m' hm L2 S2 hi
            exact ⟨n + 1, by rw [whl, e]; dsimp only [R.st]; rw [if_pos rfl, q]; exact hn⟩
          | ct =>
            obtain ⟨m', hm, hi⟩ := h1.out
            obtain ⟨n, hn⟩ := ih m' hm L2 S2 hi
            exact ⟨n + 1, by rw [whl, e]; dsimp only [R.st]; rw [if_pos rfl, q]; exact hn⟩
          | bk => exact ⟨1, by rw [whl, e]; dsimp only [R.st]; rw [if_pos rfl, q]; exact ⟨h1.out⟩⟩
          | rt d => exact ⟨1, by rw [whl, e]; dsimp only [R.st]; rw [if_pos rfl, q]; exact ⟨h1.out⟩⟩
  obtain ⟨n, hn⟩ := key m L S h
  rw [sWhl_eq (n := n) (by intro e; rw [e] at hn; exact hn.out.elim)]
  exact hn
end
/-- the walker stops at a loop -/
def stopL (p : Prop) : Prop := p
theorem stopL_in {all xs : List D} {t : Tg} {b : SM} {L : Ls} {S : Sto} {PS : Fl → Ls → Sto → Prop} (h : stopL (wps (forL none all t b xs L S) PS)) : wps (forL none all t b xs L S) PS := h
/-! ### enumerate over a text -/
section
open PySem.Spec PyProof.Rows
def IteS (x : Str) : It :=
  ⟨fun i _ => i < x.cps.size, fun i H v H' => ∃ T c, v = .ref T ∧ H T = none ∧ x.cps[i]? = some c ∧ H' = upd H T (.tup [.int (i : Nat), .str ⟨#[c]⟩]), fun i _ => i = x.cps.size⟩
theorem turn_enumS {P : Program} {w : World} {K : PySem.W.Frag} {elts : List Expr} {kk : Nat} {tpos : Pos} (x : Str) (t : Tok) (e it : Addr) :
    Turn P w K (.Tuple elts kk tpos) (IteS x) [e, it] e (fun i h => (∃ old, IsEnum h e it ((i : Nat) : Int) old) ∧ h.IsStrIter it (strIterType x) x t i ∧ e ≠ it) where
  mem := by simp
  obj := fun i h st b hb => by
    obtain ⟨⟨old, he⟩, ⟨o, ho, hc, hd⟩, _⟩ := st
    rcases (show b = e ∨ b = it by simpa using hb) with rfl | rfl
    · exact ⟨_, he, fun v q => nomatch q⟩
    · exact ⟨o, ho, fun v q => by rw [hd] at q; cases q⟩
  keep := fun i h h' st k => let ⟨⟨old, he⟩, ⟨o, ho, r⟩, hne⟩ := st; ⟨⟨old, k e (by simp) _ he⟩, ⟨o, k it (by simp) o ho, r⟩, hne⟩
  item := by
    intro X hP hw hK hc i pins s σ H E I hf st hg
    subst hP hw hK
    obtain ⟨⟨old, he⟩, hit, hne⟩ := st
    have hel : e < s.heap.objs.size := Heap.lt_size he
    have hil : it < s.heap.objs.size := by obtain ⟨_, q, _⟩ := hit; exact Heap.lt_size q
    have D := Draws.text (prog := X.prog) (w := X.w) (A := X.A.in1) (I.ok.hd hc) it x t
    refine wpAny_pyNext_enum_itemD D he hit hg hne (by simp [hne]) fun y h' tk hP ho hst' hT hsz hk => ?_
    obtain ⟨c, u, hcx, rfl⟩ := hP
    refine ⟨_, rfl, wpAny_letOwnedTupleGo_enum (s := { s with heap := h', toks := tk + 1 }) ho fun h'' he' sb => ?_⟩
    have hT2 : h''.get? s.heap.objs.size = some { cls := .type "tuple", data := .seq #[.int i tk, .str ⟨#[c]⟩ u] } := (sb.2 _ (Nat.ne_of_gt hel)).trans hT
    have new : ObjOk X.prog X.w (upd H s.heap.objs.size (.tup [.int (i : Nat), .str ⟨#[c]⟩])) h'' s.heap.objs.size (.tup [.int (i : Nat), .str ⟨#[c]⟩]) :=
      ⟨by show 2 ≤ sizeLine; decide, [.int i tk, .str ⟨#[c]⟩ u], .cons ⟨_, rfl⟩ (.cons ⟨_, rfl⟩ .nil), ⟨_, hT2, rfl, _, rfl⟩⟩
    have I1 : Inv X pins σ (upd H s.heap.objs.size (.tup [.int (i : Nat), .str ⟨#[c]⟩])) { s with heap := h'', toks := tk + 1 } :=
      I.turnedNew (ch := [e, it]) (fun b ob hb q => (sb.2 b (fun z => hb (by simp [z]))).trans (hk b ob (fun z => hb (by simp [z])) (fun z => hb (by simp [z])) q)) hf (Nat.le_refl _) new
    refine ⟨.ref s.heap.objs.size, _, I1, rfl, ⟨_, c, rfl, I.hok.fresh (Nat.le_refl _), hcx, rfl⟩, ⟨⟨.str ⟨#[c]⟩ u, ?_⟩, ?_, hne⟩, fun b hb => ?_⟩
    · rw [show ((i + 1 : Nat) : Int) = (i : Int) + 1 by omega]; exact he'
    · obtain ⟨o, q1, q2⟩ := hst'
      exact ⟨o, (sb.2 it (Ne.symm hne)).trans q1, q2⟩
    · have hb' : b < s.heap.objs.size := by
        rcases (show b = e ∨ b = it by simpa using hb) with z | z
        · rw [z]; exact hel
        · rw [z]; exact hil
      rw [upd_ne (Nat.ne_of_lt hb')]
      exact (hf b hb).1
  done := by
    intro X hP hw hK hc i pins s σ H E I hf st hg
    subst hP hw hK
    obtain ⟨⟨old, he⟩, hit, hne⟩ := st
    obtain ⟨f0, f1, f2, f3, f4, f5⟩ := hf it (by simp)
    have D := Draws.text (prog := X.prog) (w := X.w) (A := X.A.in1) (I.ok.hd hc) it x t
    have hg : i = x.cps.size := hg
    subst hg
    exact wpAny_pyNext_enum_endD D he hit fun h' eb => ⟨rfl, I.turned (t' := s.toks) (fun b o hb q => eb b o hb q) f0 f1 f3 f4 f5⟩
  self := fun A i s Q E st h => let ⟨⟨_, he⟩, _⟩ := st; wpAny_pyIter_enum he h
def iEnS (ta : TA) : TI := fun σ H R => ta σ H fun vs H1 => ∃ x, vs = [.str x] ∧ R (IteS x) H1
theorem pi_enS {X : Cx} {e : Expr} {ta : TA} {p pos tpos : Pos} {elts : List Expr} {kk : Nat} (hg : Gl X "enumerate") (hm : X.mg "enumerate" = none) (ha : PA X [e] ta) (hs : starEach [e] X.env = [(false, eval e X.env)]) :
    PI X (.Tuple elts kk tpos) (.Call (.Name "enumerate" p) [e] [] pos) (iEnS ta) := by
  refine ⟨fun pins s σ H R I h => ?_⟩
  refine Call_ (ld_blt I hg hm boot_enumerate (PyProof.Rows.callWith_type1 (thn (ha.run pos pins s σ H _ I h) fun us s1 ⟨vs, H1, I1, r1, q1⟩ => ?_) hs rfl))
  obtain ⟨x, ex, q⟩ := q1
  subst ex
  obtain ⟨u, rfl, hu⟩ := vals1 r1
  obtain ⟨t, rfl⟩ := hu
  have fr : ∀ b ∈ [s1.heap.objs.size + 1, s1.heap.objs.size], FpOk X pins H1 b := fun b hb => by
    have hle : s1.heap.objs.size ≤ b := by
      rcases (show b = s1.heap.objs.size + 1 ∨ b = s1.heap.objs.size by simpa using hb) with rfl | rfl
      · exact Nat.le_succ _
      · exact Nat.le_refl _
    exact I1.fpOk hle (I1.hok.fresh hle)
  refine en_call (begins_text x t) trivial fun h' he ho hk => wpAny_pyIter_enum he ?_
  exact ⟨_, _, _, _, H1, rfl, I1.kept (h' := h') (t' := s1.toks) hk, turn_enumS x t (s1.heap.objs.size + 1) s1.heap.objs.size, ⟨⟨.none, he⟩, ⟨_, ho, rfl, rfl⟩, Nat.succ_ne_self _⟩, fr, q⟩
end
section
variable {k : Kx} {Rl : Hp → G → Hp → G → Prop} {H : Hp} {g : G}
theorem yl_enumS {x : List Nat} : Yields k Rl (IteS ⟨x.toArray⟩) H g (enI (strI x)) none := fun H2 g2 S2 i rl w _ => by
  refine ⟨fun e => ?_, fun d hd => ?_⟩
  · show i = (⟨x.toArray⟩ : Str).cps.size
    rw [← e, enI_len]
    simp [strI]
  · obtain ⟨p, q, h3, h4, rfl⟩ := pair_at hd
    unfold strI at h4
    rw [List.getElem?_map, Option.map_eq_some_iff] at h4
    obtain ⟨c, hc, rfl⟩ := h4
    have hi := (List.getElem?_eq_some_iff.mp hc).1
    refine ⟨by show i < (⟨x.toArray⟩ : Str).cps.size; simpa using hi, fun v H3 ⟨T, c', ex, hT, hc', eH⟩ => ?_⟩
    subst ex eH
    have : x[i]? = some c' := by simpa using hc'
    rw [hc] at this
    cases this
    exact pair_new w hT (by rw [rngI_at h3, Int.zero_add]; rfl) rfl
end
theorem pk_str {k : Kx} {σ : L2.St} {L : Ls} {H : Hp} {g : G} {x : List Nat} {v : V} (h : PkRep k σ L H g (.str x) v) : v = .str ⟨x.toArray⟩ := by
  rcases h with h | ⟨i, ds, _, e, _⟩
  · exact h
  · cases e
def enOfS : List D → Option Src
  | [.str x] => some (enI (strI x), none)
  | _ => none
section
variable {X : Cx} {W : WX} {Rl : Hp → G → Hp → G → Prop} {P : OpP} {a : Expr} {p pos tpos : Pos} {elts : List Expr} {kk : Nat} {ma : Ls → Sto → R (List D)}
theorem si_enumS (M : Md (kx X) Rl P) (hg : Gl X "enumerate") (hm : X.mg "enumerate" = none) (ha : PA X [a] (tQA (kx X) W P ma)) (hs : noStar a = true) : PI X (.Tuple elts kk tpos) (.Call (.Name "enumerate" p) [a] [] pos) (tI (kx X) Rl W (iArgs enOfS ma)) :=
  PI.imp (pi_enS hg hm ha (star_cons hs)) fun σ H Q h => it_fin h fun L ds S1 vs H1 g1 src l w r q y => by
    unfold enOfS at q
    split at q
    · cases q
      obtain ⟨v, rfl, hv⟩ := arg1 (ds := []) r
      have ev := pk_str (M.pk hv)
      subst ev
      exact ⟨_, rfl, y _ yl_enumS⟩
    · cases q
end
end Rf

set_option Elab.async false
set_option linter.all false
set_option maxRecDepth 100000
set_option maxHeartbeats 0
/-! Rf, part 21: sets of texts of any length: comprehension, sorted. -/
namespace Rf
open PySem PySem.Spec PyProof.Rows L2 TL
open PySem.Froz (SD sObj TxOk addTx tailTx add_x add_ok is_str)

/-- the table can be walked -/
def Wk (w : World) (t : SetTable) : Prop := Ris t.place.toList ∧ (w.params.followText "set-order" = true ∨ t.led = true)
theorem wk_lay {w : World} {t : SetTable} (h : Wk w t) (es : Array (Int × Value)) (i : Int) (x : Value) : Wk w (layNew t es i x).2.1 :=
  ⟨layNew_ris t es i x h.1, h.2.imp id fun z => by rw [layNew_led]; exact z⟩
theorem wk_rel {w : World} {t : SetTable} (h : Wk w t) (es : Array (Int × Value)) (n : Nat) : Wk w (relayAll t es n).2.1 :=
  ⟨relayAll_ris t es n, h.2.imp id fun z => by rw [relayAll_led]; exact z⟩
theorem wk_off {w : World} {t : SetTable} (h : Wk w t) : Wk w (if t.plain = true then { t with plain := false } else t) := by
  by_cases c : t.plain = true
  · rw [if_pos c]; exact h
  · rw [if_neg c]; exact h
theorem wk_tail {w : World} {t : SetTable} (h : Wk w t) (ep : Nat) (es : Array (Int × Value)) (b : Bool) : Wk w (tailTx ep es t b).2.2 := by
  unfold tailTx
  by_cases c : (!b && t.tooFull) = true
  · rw [if_pos c]; exact wk_rel h es _
  · rw [if_neg c]; exact h
theorem wk_add {w : World} {D : SD} (h : Wk w D.2.2) (i : Int) (x : Value) : Wk w (addTx i x D).2.2 := wk_tail (wk_off (wk_lay h _ _ _)) _ _ _

/-- the set of the texts l stands at a -/
def SetS (P : Program) (w : World) (h : Heap) (a : Addr) (l : List Str) : Prop := ∃ D : SD, h.get? a = some (sObj "set" D) ∧ TxOk P w D l ∧ l.Nodup ∧ Wk w D.2.2
def SetSO (P : Program) (w : World) (a : Addr) (l : List Str) : HO := .ext fun h => SetS P w h a l
section
variable {P : Program} {w : World} {h h' : Heap} {a : Addr} {l : List Str}
theorem SetS.at (r : SetS P w h a l) (k : ∀ o, h.get? a = some o → h'.get? a = some o) : SetS P w h' a l := by
  obtain ⟨D, q, z⟩ := r
  exact ⟨D, k _ q, z⟩
theorem setSO_new {H : Hp} (r : SetS P w h a l) : ObjOk P w H h a (SetSO P w a l) := by
  have ⟨D, q, _⟩ := r
  exact ⟨r, ⟨_, q⟩, fun h1 h2 p k => SetS.at p k⟩
theorem setS_fresh : SetS P w (h.push { cls := .type "set", dict := none, data := .set #[] 0 (.fresh 0 0 (!w.params.followText "set-order")) }) h.objs.size [] := by
  refine ⟨(#[], 0, .fresh 0 0 (!w.params.followText "set-order")), Heap.get?_push_size _ rfl, PySem.Froz.TxOk.nil rfl, List.nodup_nil, List.Pairwise.nil, ?_⟩
  show _ ∨ (!w.params.followText "set-order") = true
  cases w.params.followText "set-order"
  · exact .inr rfl
  · exact .inl rfl
end
section
variable {P : Program} {w : World} {A : Around} {E : Value → Shared → Prop} {s : Shared} {a : Addr} {l : List Str} {k : Str} {u : Tok}
/-- what is there already is not laid -/
theorem add_old {D : SD} {Q : Bool → Shared → Prop} (ho : s.heap.get? a = some (sObj "set" D)) (F : TxOk P w D l) (hk : k ∈ l) (hb : l.length < scanBound) (h : Q false s) :
    wpAny (model P w) A (setAddHashed a (.str k u) (hashStr w k)) Q E s := by
  obtain ⟨es, ep, t⟩ := D
  have f1 : t.fits es.size = true := F.fit
  have f2 : ElemsOf (strKind P w) es.toList := F.el
  have f3 : es.size = l.length := F.sz
  obtain ⟨j, hj⟩ : ∃ j, List.findIdx? (fun e => (strKind P w).is k e.2) es.toList = some j := by
    cases q : List.findIdx? (fun e => (strKind P w).is k e.2) es.toList with
    | some j => exact ⟨j, rfl⟩
    | none =>
      obtain ⟨e, he, z⟩ := (F.mem k).mp hk
      have c := List.findIdx?_eq_none_iff.mp q e he
      rw [z] at c
      cases c
  unfold setAddHashed
  unfold setAddHashedIn
  refine wpAny_holding (wpAny_bind (wpAny_setState_of ho rfl f1 ?_))
  dsimp only
  rw [byScan_of rfl (by omega) f2]
  simp only [↓reduceIte]
  unfold setAddByScan
  refine wpAny_bind (wpAny_bind (wpAny_rule ?_))
  refine wpAny_bind (wpAny_setScan_of (knd := strKind P w) (k := k) (is_str k u) ho rfl f1 f2 ?_)
  rw [hj]
  exact wpAny_pure (wpAny_pure h)
theorem setS_add {Q : Value → Shared → Prop} (R : SetS P w s.heap a l) (room : l.length + 1 < scanBound) (h1 : k ∈ l → Q .none { s with toks := s.toks + 1 })
    (h2 : k ∉ l → ∀ h', Heap.SameBut a s.heap h' → SetS P w h' a (k :: l) → Q .none { s with heap := h', toks := s.toks + 1 }) :
    wpAny (model P w) A (call (.builtin "set.add") [.ref a, .str k u]) Q E s := by
  obtain ⟨D, ho, F, nd, wk⟩ := R
  have ty : s.TypeIs (.ref a) "set" := ⟨_, ho, rfl⟩
  refine wpAny_call_entry PySem.F.slot_set_add ty PySem.F.entry_set_add ?_ (PySem.F.args_set_add_2 _ _)
  unfold Builtin.«set.add»
  unfold Builtin.Frozenset.oneOther
  simp only [List.isEmpty_nil, bind_assoc]
  unfold Builtin.Frozenset.addrOf
  unfold setAdd
  refine wpAny_bind (wpAny_pure ?_)
  try dsimp only
  refine wpAny_bind (wpAny_pure ?_)
  try dsimp only
  refine wpAny_bind ?_
  refine wpAny_holding ?_
  refine wpAny_bind ((strKind P w).pyHash (k := k) (is_str k u) ?_)
  by_cases hk : k ∈ l
  · refine add_old (s := { s with toks := s.toks + 1 }) ho F hk (by omega) ?_
    show wpAny _ _ (ret Value.none) _ _ _
    exact wpAny_pure ⟨_, rfl, h1 hk⟩
  · refine add_x (s := { s with toks := s.toks + 1 }) ho F hk room ?_
    show wpAny _ _ (ret Value.none) _ _ _
    refine wpAny_pure ⟨_, rfl, h2 hk _ (Heap.SameBut.update s.heap a _) ?_⟩
    exact ⟨_, Heap.get?_update_self _ ho rfl, add_ok u F, List.nodup_cons.mpr ⟨hk, nd⟩, wk_add wk _ _⟩
end
end Rf

set_option Elab.async false
set_option linter.all false
set_option maxRecDepth 100000
set_option maxHeartbeats 0
/-! Rf, part 22: sets of texts sorted; set comprehensions of texts. -/
namespace Rf
open PySem PySem.Spec PyProof.Rows L2 TL
variable {xp : ExP}
open PySem.Froz (SD sObj TxOk addTx tailTx add_x add_ok is_str)

/-- the text that a stored value is -/
def txOf : Value → Str
  | .str k _ => k
  | _ => ⟨#[]⟩
theorem isStr_is {P : Program} {w : World} {k : Str} {v : Value} (h : (strKind P w).is k v = true) : ∃ u, v = .str k u := Value.isStrOf_shape h
theorem txAre : ∀ l : List Value, (∀ v ∈ l, ∃ k u, v = Value.str k u) → StrsAre l (l.map txOf)
  | [], _ => .nil
  | v :: l, h => by
    obtain ⟨k, u, rfl⟩ := h v List.mem_cons_self
    exact .cons k u (txAre l fun x hx => h x (List.mem_cons_of_mem _ hx))
theorem perm_sub {α : Type} [DecidableEq α] : ∀ {l m : List α}, l.Nodup → (∀ k ∈ l, k ∈ m) → m.length ≤ l.length → l.Perm m
  | [], m, _, _, h => by
    cases m with
    | nil => exact List.Perm.nil
    | cons y m => simp at h
  | x :: l, m, nd, hs, h => by
    obtain ⟨n1, n2⟩ := List.nodup_cons.mp nd
    have hx := hs x (by simp)
    have pe := List.perm_cons_erase hx
    refine List.Perm.trans ?_ pe.symm
    refine List.Perm.cons x (perm_sub n2 (fun k hk => ?_) ?_)
    · have ne : k ≠ x := fun z => n1 (z ▸ hk)
      exact (List.mem_erase_of_ne ne).mpr (hs k (List.mem_cons_of_mem _ hk))
    · have := pe.length_eq
      rw [List.length_cons] at this h
      omega
section
variable {P : Program} {w : World} {A : Around} {E : Value → Shared → Prop} {s : Shared} {a : Addr} {l : List Str}
/-- the stored values' texts are the set's -/
theorem tx_perm {D : SD} (F : TxOk P w D l) (nd : l.Nodup) : (D.1.toList.map fun e => txOf e.2).Perm l := by
  have key : ∀ e ∈ D.1.toList, ∃ k u, e.2 = Value.str k u := fun e he => by
    obtain ⟨⟨k, hk, _⟩, _⟩ := F.el e he
    obtain ⟨u, z⟩ := isStr_is hk
    exact ⟨k, u, z⟩
  have hm : ∀ k, k ∈ D.1.toList.map (fun e => txOf e.2) ↔ k ∈ l := fun k => by
    rw [F.mem k, List.mem_map]
    constructor
    · rintro ⟨e, he, q⟩
      obtain ⟨k', u, z⟩ := key e he
      rw [z] at q
      have q : k' = k := q
      subst q
      exact ⟨e, he, by rw [z]; exact is_str _ _⟩
    · rintro ⟨e, he, q⟩
      obtain ⟨u, z⟩ := isStr_is q
      exact ⟨e, he, by rw [z] <;> rfl⟩
  have hl : (D.1.toList.map fun e => txOf e.2).length = l.length := by rw [List.length_map, Array.length_toList]; exact F.sz
  exact (perm_sub nd (fun k hk => (hm k).mpr hk) (by omega)).symm
theorem sorted_setS {Q : Value → Shared → Prop} (R : SetS P w s.heap a l) (hh : A.handled = none) (hb : l.length < scanBound)
    (hQ : ∀ s' p (out : Array Value) (c : Nat) (ys : List Str), (∀ b o, s.heap.get? b = some o → s'.heap.get? b = some o) → s'.gens = s.gens → s'.os = s.os → s.heap.objs.size ≤ p →
      s'.heap.get? p = some (seqObj "list" out c) → StrsAre out.toList ys → ys.Perm l → sortedS ys = true → Q (.ref p) s') :
    wpAny (model P w) A (call (.builtin "sorted") [.ref a]) Q E s := by
  obtain ⟨D, ho, F, nd, wr, wl⟩ := R
  have hz : D.1.size < scanBound := by rw [F.sz]; exact hb
  refine Calls.call_function_entry kind_sorted plain_sorted entry_sorted (args_sorted1 _) ?_
  unfold Builtin.«sorted»
  refine wpAny_bind (m := checkCount "sorted" 1 1 _) (wpAny_pure ?_)
  refine wpAny_bind (collect_set (A := A.in1) (es := D.1) (ep := D.2.1) (t := D.2.2) hh ⟨_, ho, rfl, rfl⟩ F.fit hz wr wl fun s1 vs k1 z1 g1 o1 pm => ?_)
  have hv : ∀ v ∈ vs, ∃ k u, v = Value.str k u := fun v hv => by
    obtain ⟨e, he, q⟩ := List.mem_map.mp (pm.mem_iff.mp hv)
    obtain ⟨⟨k, hk, _⟩, _⟩ := F.el e he
    obtain ⟨u, z⟩ := isStr_is hk
    exact ⟨k, u, by rw [← q]; exact z⟩
  have hS := txAre vs hv
  have hlen : vs.length ≤ sizeLine := by
    rw [pm.length_eq, List.length_map, Array.length_toList]
    exact fits_of_scanBound hz
  have pl : (vs.map txOf).Perm l := by
    have q := pm.map txOf
    rw [List.map_map] at q
    exact q.trans (tx_perm F nd)
  refine wpAny_bind (wpAny_newList ?_ hlen)
  have hL : (s1.heap.push (seqObj "list" vs.toArray 0)).get? s1.heap.objs.size = some (seqObj "list" vs.toArray 0) := Heap.get?_push_size _ rfl
  refine wpAny_bind (wpAny_holding (wpAny_call_entry slot_list_sort ⟨_, hL, rfl⟩ entry_list_sort (list_sort_treeKAny strKind_oneLt hL hS.keysOf (fun v1 v2 rest e => keyKind_strs (by rw [← e]; exact hS)) hlen fun st hp hs => ⟨_, rfl, ?_⟩) (args_list_sort _)))
  obtain ⟨ys, y1, y2, y3⟩ := sorted_out_str hS hp hs
  obtain ⟨c, hc⟩ := sortedHeap_at (vs := vs) (out := (arrOf st).map (·.2)) hL
  refine wpAny_pure ⟨_, rfl, hQ _ s1.heap.objs.size _ c ys (fun b o e => ?_) g1 o1 z1 hc y1 (y2.trans pl) y3⟩
  have q := k1 b o e
  have lt := Heap.lt_size q
  show (sortedHeap (s1.heap.push (seqObj "list" vs.toArray 0)) s1.heap.objs.size vs _).get? b = some o
  rw [sortedHeap_old (Nat.ne_of_lt lt) (by rw [size_push']; exact Nat.lt_succ_of_lt lt)]
  exact Heap.get?_push_of_some _ q
end
section
variable {X : Cx}
theorem setSO_get {pins : List (Addr × Obj)} {σ : L2.St} {H : Hp} {s : Shared} {a : Addr} {l : List Str} (I : Inv X pins σ H s) (ha : H a = some (SetSO X.prog X.w a l)) : SetS X.prog X.w s.heap a l := (I.hok a _ ha).1
/-- the add of a text -/
theorem addS_ok {pins : List (Addr × Obj)} {σ : L2.St} {H : Hp} {s : Shared} {E : Value → Shared → Prop} {a : Addr} {l : List Str} {k : Str} {u : Tok} {Q : Value → Shared → Prop} (I : Inv X pins σ H s) (ha : H a = some (SetSO X.prog X.w a l)) (room : l.length + 1 < scanBound)
    (h : ∀ s', Inv X pins σ (upd H a (SetSO X.prog X.w a (if k ∈ l then l else k :: l))) s' → Q .none s') : wpAny (model X.prog X.w) X.A (call (.builtin "set.add") [.ref a, .str k u]) Q E s := by
  refine setS_add (setSO_get I ha) room (fun hk => ?_) fun hk h' sb r => ?_
  · rw [if_pos hk] at h
    refine h _ ?_
    have e : upd H a (SetSO X.prog X.w a l) = H := by
      funext b
      by_cases z : b = a
      · subst z; rw [upd_same, ha]
      · rw [upd_ne z]
    rw [e]
    exact I.tok _
  · rw [if_neg hk] at h
    have ⟨D, q, _⟩ := r
    exact h _ (I.write (e := a) (t' := s.toks + 1) (by rw [ha]; trivial) (.inl rfl) (fun b u hb hu => (sb.2 b hb).trans hu) ⟨_, q⟩ (setSO_new r))
def rSrtS (P : Program) (w : World) : List V → Hp → VK → Prop := fun vs H Q => ∃ (a : Addr) (l : List Str), vs = [V.ref a] ∧ H a = some (SetSO P w a l) ∧ l.length < scanBound ∧
  ∀ (ys : List Str) (p : Addr), ys.Perm l → sortedS ys = true → H p = none → Q (.ref p) (upd H p (.lst (ys.map V.str)))
theorem cr_srtS (hc : X.calm = true) : CallR X (.builtin "sorted") (rSrtS X.prog X.w) := by
  intro pins s σ H vs us Q I r h
  obtain ⟨a, l, rfl, ha, hb, q⟩ := h
  rw [Vals.ref1 r]
  refine sorted_setS (setSO_get I ha) (I.ok.hd hc) hb fun s' p out c ys k1 g1 o1 hp hg y1 y2 y3 => ?_
  have hlen : (ys.map V.str).length ≤ sizeLine := by rw [List.length_map, y2.length_eq]; exact fits_of_scanBound hb
  have hn : H p = none := I.hok.fresh hp
  have J : Inv X pins σ (upd H p (.lst (ys.map V.str))) { s with heap := s'.heap, gens := s'.gens, drawn := s'.drawn, toks := s'.toks } :=
    I.call (ch := []) (Un.laid k1 hp hn) (I.hok.laid k1 hp ⟨hlen, out.toList, c, vals_of_strs y1, hg⟩) (by rw [g1]; exact I.bare) (fun _ z => nomatch z)
  have e : s' = { s with heap := s'.heap, gens := s'.gens, drawn := s'.drawn, toks := s'.toks } := by
    cases s'
    cases s
    cases o1
    rfl
  rw [e]
  exact ⟨.ref p, _, J, rfl, q ys p y2 y3 hn⟩

/-! ### the comprehension -/
/-- {elt for target in iter if ..}, elt a text -/
def tScS (P : Program) (w : World) (wi : TI) (g : TG) (tt : TT) (te : TE) (vs : List Nat) : TE := fun σ H Q => wi σ H fun J H1 => ∀ D, H1 D = none → ∃ W : Nat → Nat → Hp → Prop, (∃ m, W 0 m (upd H1 D (SetSO P w D []))) ∧ ∀ i m Hc, W i m Hc →
  (J.stop i Hc ∧ Q (.ref D) Hc) ∨ (J.go i Hc ∧ ∃ Nx : Hp → Prop, (∀ H', Nx H' → ∃ m', m' < m ∧ W (i + 1) m' H') ∧ ∀ x H', J.yld i Hc x H' → g x (wipe σ vs) H' fun σ2 H2 => wipe σ2 vs = wipe σ vs ∧ tt σ2 H2 fun b H3 =>
    if b = true then te σ2 H3 fun y H4 => ∃ (k : Str) (l : List Str), y = .str k ∧ H4 D = some (SetSO P w D l) ∧ l.length + 1 < scanBound ∧ Nx (upd H4 D (SetSO P w D (if k ∈ l then l else k :: l))) else Nx H3)
theorem pe_scS {elt tg iter : Expr} {ifs : List Expr} {scope : Scope} {own : List (PySem.Str × Nat)} {pos : Pos} {wi : TI} {g : TG} {tt : TT} {te : TE} (hc : X.calm = true) (hN : X.N.Nodup) (hi : PI X tg iter wi) (ok : BlkOk X.N X.env.scope scope own)
    (hg : ∀ (s : Shared) (H : Hp) (C : Addr) (cl : List (PySem.Str × Addr)) (fp : List Addr), PG (X.blk s H scope (compEnvC scope cl C X.env) fp) tg g) (ht : ∀ (s : Shared) (H : Hp) (C : Addr) (cl : List (PySem.Str × Addr)) (fp : List Addr), PTs (X.blk s H scope (compEnvC scope cl C X.env) fp) ifs tt)
    (he : ∀ (s : Shared) (H : Hp) (C : Addr) (cl : List (PySem.Str × Addr)) (fp : List Addr), PE (X.blk s H scope (compEnvC scope cl C X.env) fp) elt te) (hs : ∀ x, foldedSetIterable iter X.env x = pure x) :
    PE X (.SetComp elt [⟨tg, iter, ifs, 0⟩] scope pos) (tScS X.prog X.w wi g tt te (own.map (·.2))) := by
  refine ⟨fun pins s σ H Q I h => ?_⟩
  rw [PpSet.eval_SetComp]
  have fre : ∀ y ∈ scope.names, y.2 = .free → ∃ c, X.env.cells.lookup y.1 = some c := fun y hy e => (ok.free y hy e).elim (fun z => I.ok.has _ (.inl z)) fun z => I.ok.has _ (.inr z)
  refine wpAny_comprehension_free (use := none) rfl hs (closure_ok fre) ok.kind (fun y hy e => by rw [ok.uniq y hy, e])
    (thn (hi.run pins s σ H _ I h) fun xv s1 hx => thn hx fun itv s2 h2 => ?_)
  obtain ⟨it, fp, tn, J, H2, e, I2, T, st2, f2, q⟩ := h2
  subst e
  refine PpSet.newSet_ok (newEnv_comp ?_)
  generalize hD : s2.heap.objs.size = D
  obtain ⟨W, ⟨m0, w0⟩, turn⟩ := q D (I2.hok.fresh (Nat.le_of_eq hD))
  generalize hs3 : ({ s2 with heap := s2.heap.push { cls := .type "set", dict := none, data := .set #[] 0 (.fresh 0 0 (!X.w.params.followText "set-order")) } } : Shared) = s3
  have I3 : Inv X pins σ (upd H2 D (SetSO X.prog X.w D [])) s3 := by
    rw [← hs3]
    refine I2.laid (t' := s2.toks) (fun b o z => Heap.get?_push_of_some _ z) (Nat.le_of_eq hD) ?_
    rw [← hD]
    exact setSO_new setS_fresh
  have h3 : s3.heap = s2.heap.push { cls := .type "set", dict := none, data := .set #[] 0 (.fresh 0 0 (!X.w.params.followText "set-order")) } := by rw [← hs3]
  have f3 : ∀ b ∈ fp, FpOk X pins (upd H2 D (SetSO X.prog X.w D [])) b ∧ b < s3.heap.objs.size := fun b hb => by
    have lt : b < s2.heap.objs.size := by
      obtain ⟨o, z, _⟩ := T.obj _ _ st2 b hb
      exact Heap.lt_size z
    refine ⟨⟨?_, (f2 b hb).2⟩, by rw [h3, Heap.size_push]; exact Nat.lt_succ_of_lt lt⟩
    rw [upd_ne (by rw [← hD]; exact Nat.ne_of_lt lt)]
    exact (f2 b hb).1
  have st3 : tn 0 s3.heap := T.keep _ _ _ st2 fun b _ o z => by rw [h3]; exact Heap.get?_push_of_some _ z
  have I4 := block_start I3 ok hN f3
  generalize hH3 : upd H2 D (SetSO X.prog X.w D []) = H3 at I3 I4 w0 f3
  generalize hcl : cellsFrom (s3.heap.objs.size + 1) scope.names (cloFrom X.env.cells scope.names []) = cl at I4
  have pg := hg s3 H3 s3.heap.objs.size cl fp
  have pt := ht s3 H3 s3.heap.objs.size cl fp
  have pe := he s3 H3 s3.heap.objs.size cl fp
  show codeAny _ _ (.compStart (.SetComp elt [⟨tg, iter, ifs, 0⟩] scope pos) 0 (.ref it) (.ref D) (compEnvC scope cl s3.heap.objs.size X.env)) (compPost (model X.prog X.w) X.A X.xe none _ (.ref D) s3.heap.objs.size) { s3 with heap := pushCells (s3.heap.push { cls := .type "dict", data := .dict #[] }) scope.names }
  have nfp : ∀ b ∈ fp, H3 b = none := fun b hb => (f3 b hb).1.1
  generalize hce : compEnvC scope cl s3.heap.objs.size X.env = ce at I4 pg pt pe ⊢
  have cL : ce.locals = s3.heap.objs.size := by subst hce; rfl
  generalize hs4 : ({ s3 with heap := pushCells (s3.heap.push { cls := .type "dict", data := .dict #[] }) scope.names } : Shared) = s4 at I4 ⊢
  have st4 : tn 0 s4.heap := T.keep _ _ _ st3 fun b _ o z => by rw [← hs4]; exact pushCells_keeps _ _ _ _ (Heap.get?_push_of_some _ z)
  have stat : ∀ {τ : L2.St} {H' : Hp} {s' : Shared}, Inv (X.blk s3 H3 scope ce fp) [] τ H' s' → (∀ b ∈ fp, H' b = none) → ∀ b ∈ fp, FpOk (X.blk s3 H3 scope ce fp) [] H' b := fun {τ H' s'} I' hn b hb =>
    ⟨hn b hb, (I'.ok.exf b hb).1, I'.ok.exfs b hb, .inl hb, fun x c z => (I'.ok.exf b hb).2 x c z, fun p hp => absurd (show p ∈ ([] : List (Addr × Obj)) ++ [] from hp) (by simp)⟩
  refine PpSet.codeAny_compStart_set ?_ (T.self X.A 0 _ _ _ st4 ?_) <;>
  · refine PpSet.compLoopS_any (fun n s' => ∃ i H', Inv (X.blk s3 H3 scope ce fp) [] (wipe σ (own.map (·.2))) H' s' ∧ tn i s'.heap ∧ (∀ b ∈ fp, H' b = none) ∧ W i n H') ?_ m0 ⟨0, H3, I4, st4, nfp, w0⟩
    rintro n s5 ⟨i, H5, I5, st5, n5, w5⟩
    rcases turn i n H5 w5 with ⟨stop, qq⟩ | ⟨go, Nx, hNx, step⟩
    · refine thnF (T.done (X.blk s3 H3 scope ce fp) rfl rfl rfl hc i [] s5 _ H5 (fun _ _ => False) I5 (stat I5 n5) st5 stop) fun r s6 ⟨hr, I6⟩ => ?_
      subst hr
      have I7 : Inv X pins σ H5 s6 := I3.call' (ch := fp) I6.os I6.base I6.hok I6.bare fun b hb => ⟨(f3 b hb).1.2.2.2.1, (f3 b hb).1.2.1, (f3 b hb).1.2.2.2.2.1, (f3 b hb).1.2.2.2.2.2⟩
      have nC : H5 s3.heap.objs.size = none := by
        have z : H5 ce.locals = none := I6.free
        rwa [cL] at z
      obtain ⟨m, hn, _⟩ := I6.loc
      have hn : s6.heap.Ns ce.locals m := hn
      rw [cL] at hn
      obtain ⟨q0, q1, q2, q3, q4, q5⟩ := I3.fpOk (Nat.le_refl _) nC
      exact ⟨m, hn, fun h'' sb => ⟨.ref D, H5, I7.turned (t' := s6.toks) (fun b o hb z => (sb.2 b hb).trans z) q0 q1 q3 q4 q5, rfl, qq⟩⟩
    · refine thnF (T.item (X.blk s3 H3 scope ce fp) rfl rfl rfl hc i [] s5 _ H5 (fun _ _ => False) I5 (stat I5 n5) st5 go) fun r s6 ⟨u, hr, h6⟩ => ?_
      subst hr
      refine thnF h6 fun _ s7 ⟨x, H7, I7, r7, y7, st7, n7⟩ => ?_
      have I8 := I7.pinned (stat I7 n7) (T.obj _ _ st7)
      refine thnF (pg.run _ s7 _ H7 x u _ I8 r7 (step x H7 y7)) fun _ s8 ⟨σ8, H8, I8, hw8, q8⟩ => ?_
      refine thnF (pt.run _ s8 σ8 H8 _ I8 q8) fun b s9 ⟨H9, I9, q9⟩ => ?_
      have fin : ∀ {s' : Shared} {H' : Hp}, Inv (X.blk s3 H3 scope ce fp) ([] ++ pinsAt fp s7.heap) σ8 H' s' → Nx H' → ∃ m, m < n ∧ ∃ i H', Inv (X.blk s3 H3 scope ce fp) [] (wipe σ (own.map (·.2))) H' s' ∧ tn i s'.heap ∧ (∀ b ∈ fp, H' b = none) ∧ W i m H' := fun {s' H'} I' nx => by
        obtain ⟨m', hm, w'⟩ := hNx H' nx
        have pin : ∀ b ∈ fp, ∀ o, s7.heap.get? b = some o → s'.heap.get? b = some o ∧ H' b = none := fun b hb o z =>
          ⟨(I'.pin (b, o) (List.mem_append_right _ (List.mem_append_right _ (mem_pinsAt hb z)))).1, (I'.pin (b, o) (List.mem_append_right _ (List.mem_append_right _ (mem_pinsAt hb z)))).2.1⟩
        refine ⟨m', hm, i + 1, H', (I'.unpinned (pins := [])).weak (by rw [← hw8, wipe_length]) (fun j v z => ?_), T.keep _ _ _ st7 fun b hb o z => (pin b hb o z).1, fun b hb => ?_, w'⟩
        · rw [← hw8] at z
          exact (wipe_some z).1
        · obtain ⟨o, z, _⟩ := T.obj _ _ st7 b hb
          exact (pin b hb o z).2
      cases b with
      | false => exact fin I9 q9
      | true =>
        refine thnF (pe.run _ s9 σ8 H9 _ I9 q9) fun z s10 ⟨yv, H10, I10, r10, k, l, ey, hD10, room, nx⟩ => ?_
        subst ey
        obtain ⟨u1, rfl⟩ := (show ∃ t, z = Value.str k t from r10)
        exact addS_ok (X := X.blk s3 H3 scope ce fp) I10 hD10 room fun s11 I11 => fin I11 nx
end
end Rf

set_option Elab.async false
set_option linter.all false
set_option maxRecDepth 100000
set_option maxHeartbeats 0
/-! Rf, part 23: sorted({.. for ..}) of texts. -/
namespace Rf
open PySem PyProof.Rows L2 TL
variable {xp : ExP}

/-! ### each text once, in order -/
def insU (x : List Nat) : List (List Nat) → List (List Nat)
  | [] => [x]
  | y :: ys => if x = y then y :: ys else if x < y then x :: y :: ys else y :: insU x ys
def sortU : List (List Nat) → List (List Nat)
  | [] => []
  | x :: xs => insU x (sortU xs)
theorem insU_mem {x y : List Nat} : ∀ {ys : List (List Nat)}, y ∈ insU x ys ↔ y = x ∨ y ∈ ys
  | [] => by simp [insU]
  | z :: ys => by
    unfold insU
    split
    · rename_i h; subst h; simp
    · split
      · simp
      · rw [List.mem_cons, insU_mem, List.mem_cons]
        constructor
        · rintro (h | h | h) <;> simp [h]
        · rintro (h | h | h) <;> simp [h]
theorem sortU_mem {y : List Nat} : ∀ {xs : List (List Nat)}, y ∈ sortU xs ↔ y ∈ xs
  | [] => by simp [sortU]
  | x :: xs => by rw [sortU, insU_mem, sortU_mem, List.mem_cons]
theorem lt_tri (x y : List Nat) (h : x ≠ y) (h2 : ¬ x < y) : y < x := by
  rcases Std.lt_trichotomy x y with z | z | z
  · exact absurd z h2
  · exact absurd z h
  · exact z
theorem insU_srt {x : List Nat} : ∀ {ys : List (List Nat)}, ys.Pairwise (· < ·) → (insU x ys).Pairwise (· < ·)
  | [], _ => by simp [insU]
  | y :: ys, h => by
    obtain ⟨h1, h2⟩ := List.pairwise_cons.mp h
    unfold insU
    split
    · exact h
    · rename_i ne
      split
      · rename_i lt
        refine List.pairwise_cons.mpr ⟨fun z hz => ?_, h⟩
        rcases List.mem_cons.mp hz with rfl | hz
        · exact lt
        · exact List.lt_trans lt (h1 z hz)
      · rename_i nl
        refine List.pairwise_cons.mpr ⟨fun z hz => ?_, insU_srt h2⟩
        rcases insU_mem.mp hz with rfl | hz
        · exact lt_tri _ _ ne nl
        · exact h1 z hz
theorem sortU_srt : ∀ xs : List (List Nat), (sortU xs).Pairwise (· < ·)
  | [] => List.Pairwise.nil
  | _ :: xs => insU_srt (sortU_srt xs)
theorem srt_eq : ∀ {a b : List (List Nat)}, a.Pairwise (· < ·) → b.Pairwise (· < ·) → (∀ x, x ∈ a ↔ x ∈ b) → a = b
  | [], [], _, _, _ => rfl
  | [], y :: b, _, _, h => by have := (h y).mpr (by simp); cases this
  | x :: a, [], _, _, h => by have := (h x).mp (by simp); cases this
  | x :: a, y :: b, ha, hb, h => by
    obtain ⟨a1, a2⟩ := List.pairwise_cons.mp ha
    obtain ⟨b1, b2⟩ := List.pairwise_cons.mp hb
    have e : x = y := by
      rcases List.mem_cons.mp ((h x).mp (by simp)) with e | hx
      · exact e
      · rcases List.mem_cons.mp ((h y).mpr (by simp)) with e | hy
        · exact e.symm
        · exact absurd (List.lt_trans (a1 y hy) (b1 x hx)) (List.lt_irrefl _)
    subst e
    congr 1
    refine srt_eq a2 b2 fun z => ?_
    have := h z
    simp only [List.mem_cons] at this
    constructor
    · intro hz
      rcases this.mp (.inr hz) with rfl | q
      · exact absurd (a1 _ hz) (List.lt_irrefl _)
      · exact q
    · intro hz
      rcases this.mpr (.inr hz) with rfl | q
      · exact absurd (b1 _ hz) (List.lt_irrefl _)
      · exact q
/-! the model's own word for sorted -/
theorem risS_pw : ∀ (p : Str) (l : List Str), risingS p l = true → (p :: l).Nodup → ((p :: l).map fun s => s.cps.toList).Pairwise (· < ·)
  | p, [], _, _ => by simp
  | p, x :: r, h, nd => by
    have h : (!PySem.Spec.ltCps x.cps.toList p.cps.toList && risingS x r) = true := h
    rw [Bool.and_eq_true] at h
    obtain ⟨n1, n2⟩ := List.nodup_cons.mp nd
    have ih := risS_pw x r h.2 n2
    have px : p.cps.toList < x.cps.toList := by
      have nl : ¬ x.cps.toList < p.cps.toList := by
        intro z
        have := h.1
        rw [ltCps_eq, decide_eq_true z] at this
        cases this
      refine lt_tri _ _ (fun z => n1 ?_) nl
      have e : x = p := by
        obtain ⟨⟨xs⟩⟩ := x
        obtain ⟨⟨ps⟩⟩ := p
        have z : xs = ps := z
        rw [z]
      rw [e]; simp
    rw [List.map_cons] at ih ⊢
    refine List.pairwise_cons.mpr ⟨fun z hz => ?_, ih⟩
    rcases List.mem_cons.mp hz with rfl | hz
    · exact px
    · exact List.lt_trans px ((List.pairwise_cons.mp ih).1 z hz)
theorem srtS_pw {l : List Str} (h : sortedS l = true) (nd : l.Nodup) : (l.map fun s => s.cps.toList).Pairwise (· < ·) := by
  cases l with
  | nil => exact List.Pairwise.nil
  | cons x r => exact risS_pw x r h nd
def mkS (x : List Nat) : Str := ⟨x.toArray⟩
theorem srtS_eq {l ys : List Str} {xs : List (List Nat)} (hm : ∀ k, k ∈ l ↔ k ∈ xs.map mkS) (nd : l.Nodup) (hp : ys.Perm l) (hs : sortedS ys = true) : ys = (sortU xs).map mkS := by
  have e : ys.map (fun s => s.cps.toList) = sortU xs := srt_eq (srtS_pw hs (hp.nodup_iff.mpr nd)) (sortU_srt xs) fun x => by
    rw [sortU_mem, List.mem_map]
    constructor
    · rintro ⟨k, hk, rfl⟩
      obtain ⟨z, hz, e⟩ := List.mem_map.mp ((hm k).mp (hp.mem_iff.mp hk))
      subst e
      exact hz
    · intro hx
      exact ⟨mkS x, hp.mem_iff.mpr ((hm _).mpr (List.mem_map.mpr ⟨x, hx, rfl⟩)), rfl⟩
  rw [← e, List.map_map]
  have : (mkS ∘ fun s : Str => s.cps.toList) = id := funext fun s => by
    obtain ⟨⟨z⟩⟩ := s
    rfl
  rw [this, List.map_id]

/-! ### the rule -/
def srtR (ds : List D) (S : Sto) : R (List D) := match strsD ds with
  | some xs => if xs.length < 4000 then .ok ((sortU xs).map .str) S else .no
  | none => .no
noncomputable def fSrt (mi : Ls → Sto → R Src) (own : List Nat) (t : Tg) (tt : Ls → Sto → R Bool) (te : EM) : Ls → Sto → R (List D) := fun L S =>
  (mi L S).bind fun src S1 => (lcLoop src.2 src.1 t tt te (wipeL L own) src.1 S1 []).bind srtR
theorem ckd_bind {α β : Type} {S : Sto} {all : List D} {dep : Option Nat} {r : R α} {f : α → Sto → R β} : (ckd S all dep r).bind f = ckd S all dep (r.bind f) := by
  cases dep with
  | none => rfl
  | some n =>
    unfold ckd
    by_cases z : S[n]? = some (.lst all)
    · simp only [if_pos z]
    · simp only [if_neg z]
theorem bind_as {α β γ : Type} {r : R α} {f : α → Sto → R β} {g : β → Sto → R γ} : (r.bind f).bind g = r.bind fun a S => (f a S).bind g := by
  cases r <;> rfl
theorem strsD_app : ∀ {a b : List D} {xs : List (List Nat)}, strsD (a ++ b) = some xs → ∃ x y, strsD a = some x ∧ strsD b = some y ∧ xs = x ++ y
  | [], b, xs, h => ⟨[], xs, rfl, h, rfl⟩
  | .str x :: a, b, xs, h => by
    have h : (strsD (a ++ b)).map (x :: ·) = some xs := h
    cases q : strsD (a ++ b) with
    | none => rw [q] at h; cases h
    | some z =>
      rw [q] at h
      cases h
      obtain ⟨u, v, h1, h2, rfl⟩ := strsD_app q
      exact ⟨x :: u, v, by rw [strsD, h1]; rfl, h2, rfl⟩
  | .non :: _, _, _, h => nomatch h
  | .bl _ :: _, _, _, h => nomatch h
  | .int _ :: _, _, _, h => nomatch h
  | .tup _ :: _, _, _, h => nomatch h
  | .lst _ :: _, _, _, h => nomatch h
  | .obj _ :: _, _, _, h => nomatch h
  | .gl _ :: _, _, _, h => nomatch h
  | .ty _ :: _, _, _, h => nomatch h
  | .scr _ :: _, _, _, h => nomatch h
theorem strsD_str : ∀ xs : List (List Nat), strsD (xs.map .str) = some xs
  | [] => rfl
  | x :: xs => by rw [List.map_cons, strsD, strsD_str xs]; rfl
/-- the loop's answer begins with what it has -/
theorem lc_pre {dep : Option Nat} {all : List D} {t : Tg} {tt : Ls → Sto → R Bool} {te : EM} {Lw : Ls} : ∀ (ds : List D) (S : Sto) (acc : List D), match lcLoop dep all t tt te Lw ds S acc with
    | .ok r _ => ∃ more, r = acc ++ more
    | .ex _ _ => False
    | .no => True
  | [], S, acc => by
    rw [lcLoop]
    cases dep with
    | none => exact ⟨[], by simp⟩
    | some n =>
      unfold ckd
      by_cases z : S[n]? = some (.lst all)
      · simp only [if_pos z]; exact ⟨[], by simp⟩
      · simp only [if_neg z]
  | d :: ds, S, acc => by
    rw [lcLoop]
    have key : ∀ r : R (List D), (match r with
        | .ok r _ => ∃ more, r = acc ++ more
        | .ex _ _ => False
        | .no => True) → match ckd S all dep r with
        | .ok r _ => ∃ more, r = acc ++ more
        | .ex _ _ => False
        | .no => True := fun r h => by
      cases dep with
      | none => exact h
      | some n =>
        unfold ckd
        by_cases z : S[n]? = some (.lst all)
        · simp only [if_pos z]; exact h
        · simp only [if_neg z]
    refine key _ ?_
    cases tgA t d Lw with
    | none => trivial
    | some L1 =>
      dsimp only
      cases tt L1 S with
      | no => trivial
      | ex x S1 => trivial
      | ok b S1 =>
        dsimp only [R.nox, R.bind]
        cases b with
        | false => exact lc_pre ds S1 acc
        | true =>
          rw [if_pos rfl]
          cases te L1 S1 with
          | no => trivial
          | ex x S2 => trivial
          | ok y S2 =>
            dsimp only
            by_cases hz : acc.length < sizeLine
            · rw [if_pos hz]
              have := lc_pre (dep := dep) (all := all) (t := t) (tt := tt) (te := te) (Lw := Lw) ds S2 (acc ++ [y])
              cases q : lcLoop dep all t tt te Lw ds S2 (acc ++ [y]) with
              | no => trivial
              | ex x S3 => rw [q] at this; exact this
              | ok r S3 =>
                rw [q] at this
                obtain ⟨m, rfl⟩ := this
                exact ⟨y :: m, by simp⟩
            · rw [if_neg hz]; trivial
/-- .. so what it has are texts, and few -/
theorem srt_pre {k : Kx} {P : Hp → G → List D → V → Prop} {H : Hp} {g : G} {W : Value → Option Addr → Hp → Prop} {dep : Option Nat} {all : List D} {t : Tg} {tt : Ls → Sto → R Bool} {te : EM} {Lw : Ls} {ds : List D} {S : Sto} {acc : List D} {Q : V → Hp → Prop}
    (h : Post k P H g W ((lcLoop dep all t tt te Lw ds S acc).bind srtR) Q) : ∃ xs, strsD acc = some xs ∧ xs.length < 4000 := by
  have := lc_pre (dep := dep) (all := all) (t := t) (tt := tt) (te := te) (Lw := Lw) ds S acc
  cases q : lcLoop dep all t tt te Lw ds S acc with
  | no => rw [q] at h; exact h.elim
  | ex x S1 => rw [q] at this; exact this.elim
  | ok r S1 =>
    rw [q] at this h
    obtain ⟨m, rfl⟩ := this
    have h : Post k P H g W (srtR (acc ++ m) S1) Q := h
    unfold srtR at h
    cases z : strsD (acc ++ m) with
    | none => rw [z] at h; exact h.elim
    | some xs =>
      rw [z] at h
      obtain ⟨x, y, h1, h2, rfl⟩ := strsD_app z
      refine ⟨x, h1, ?_⟩
      by_cases c : (x ++ y).length < 4000
      · rw [List.length_append] at c; omega
      · have h : Post k P H g W (if (x ++ y).length < 4000 then .ok ((sortU (x ++ y)).map .str) S1 else .no) Q := h
        rw [if_neg c] at h; exact h.elim
/-! a thing beside the store changes -/
structure Side (H : Hp) (g : G) (a : Addr) : Prop where
  t : ∃ φ, H a = some (.ext φ)
  f : ¬ g.F a
  r : ∀ i, i < g.n → g.ρ i ≠ a
section
variable {k : Kx} {H B : Hp} {g gB : G} {S : Sto} {a : Addr} {φ : Heap → Prop}
theorem side_pext (h : Side H g a) : PExt H g (upd H a (.ext φ)) g := by
  obtain ⟨⟨ψ, e⟩, nf, nr⟩ := h
  refine ⟨fun _ f => f, fun b o f q => ?_, fun b xs q => ?_, fun b o u q => ?_, Nat.le_refl _, fun _ _ => rfl⟩
  · rw [upd_ne (fun z => nf (by rw [← z]; exact f))]; exact q
  · rw [upd_ne (fun z => by rw [z, e] at q; cases q)]; exact q
  · rw [upd_ne (fun z => by rw [z, e] at q; cases q)]; exact q
theorem side_wf (h : Side H g a) (w : WF k H g S) : WF k (upd H a (.ext φ)) g S where
  len := w.len
  ob := fun i o e => (w.ob i o e).mono (side_pext h) fun u q => by
    rw [upd_ne (fun z => h.r i (by rw [← w.len]; exact (List.getElem?_eq_some_iff.mp e).1) z)]; exact q
  inj := w.inj
  nF := w.nF
  tF := fun b f => by
    obtain ⟨o, q⟩ := w.tF b f
    exact ⟨o, by rw [upd_ne (fun z => h.f (by rw [← z]; exact f))]; exact q⟩
theorem side_ext (e : Ext B gB H g) (hB : B a = none) : Ext B gB (upd H a (.ext φ)) g where
  toPExt := ⟨e.F, fun b o f q => by rw [upd_ne (ne_of_none q hB)]; exact e.kF b o f q, fun b xs q => by rw [upd_ne (ne_of_none q hB)]; exact e.kT b xs q, fun b o u q => by rw [upd_ne (ne_of_none q hB)]; exact e.kZ b o u q, e.n, e.ρ⟩
  keep := fun b o q n => by rw [upd_ne (ne_of_none q hB)]; exact e.keep b o q n
  newF := e.newF
  newρ := e.newρ
  tr := fun b o q => by
    obtain ⟨u, z⟩ := e.tr b o q
    exact ⟨u, by rw [upd_ne (ne_of_none q hB)]; exact z⟩
theorem side_new (w : WF k H g S) (h : H a = none) : Side (upd H a (.ext φ)) g a := by
  refine ⟨⟨φ, upd_same⟩, fun f => ?_, fun i hi z => ?_⟩
  · obtain ⟨o, z⟩ := w.tF a f
    rw [h] at z; cases z
  · obtain ⟨o, y⟩ := w.ρt hi
    rw [z, h] at y; cases y
theorem side_upd (h : Side H g a) : Side (upd H a (.ext φ)) g a := ⟨⟨φ, upd_same⟩, h.f, h.r⟩
theorem side_on {H' : Hp} {g' : G} {o : HO} (h : Side H g a) (ha : H a = some o) (e : Ext H g H' g') : Side H' g' a ∧ H' a = some o := by
  have k := e.keep a o ha h.r
  obtain ⟨φ, q⟩ := h.t
  refine ⟨⟨⟨φ, by rw [k, ← ha, q]⟩, fun f => ?_, fun i hi z => ?_⟩, k⟩
  · rcases e.newF a f with f | f
    · exact h.f f
    · rw [ha] at f; cases f
  · by_cases hi' : i < g.n
    · exact h.r i hi' ((e.ρ i hi').symm.trans z)
    · have y := e.newρ i (Nat.le_of_not_lt hi') hi
      rw [z, ha] at y; cases y
end
section
variable {X : Cx} {W : WX} {elt tg iter : Expr} {ifs : List Expr} {scope : Scope} {own : List (Str × Nat)} {p pos spos : Pos} {mi : Ls → Sto → R Src} {t : Tg} {tt : Ls → Sto → R Bool} {te : EM} {x : Str}
theorem repL_strs {k : Kx} {H : Hp} {g : G} : ∀ xs : List (List Nat), RepL k H g (xs.map .str) ((xs.map mkS).map V.str)
  | [] => rfl
  | x :: xs => ⟨_, _, rfl, rfl, repL_strs xs⟩
theorem sc_read {P : Program} {ww : World} {vs : List Nat} (hs : ∀ i ∈ t.slots, i ∈ vs) {k : Kx} {σ : L2.St} {H : Hp} {Q : VK} (h : tF k W (fSrt mi vs t tt te) σ H Q) :
    tScS P ww (tI k Ext W mi) (tGt k t) (tT k WN tt) (tE k WN te) vs σ H fun x H' => rSrtS P ww [x] H' Q := by
  obtain ⟨L, S, g, l, w, p⟩ := h
  refine ⟨L, S, g, l, w, Post.bind p fun src S1 J H1 g1 e1 w1 y p1 => fun D hD => ?_⟩
  obtain ⟨all, dep⟩ := src
  have l1 := (l.ext e1).wipe vs
  refine ⟨fun i m Hc => ∃ Sc gc acc xs ls, m = all.length - i ∧ i ≤ all.length ∧ Ext H1 g1 Hc gc ∧ WF k Hc gc Sc ∧ Side Hc gc D ∧ Hc D = some (SetSO P ww D ls) ∧ strsD acc = some xs ∧ ls.Nodup ∧ (∀ z, z ∈ ls ↔ z ∈ xs.map mkS) ∧ ls.length ≤ xs.length ∧
    Post k (FRep k H) H1 g1 (fun c d => W c d σ) ((lcLoop dep all t tt te (wipeL L vs) (all.drop i) Sc acc).bind srtR) Q,
    ⟨all.length, S1, g1, [], [], [], by omega, Nat.zero_le _, Ext.new hD, w1.new hD, side_new w1 hD, upd_same, rfl, List.nodup_nil, fun z => by simp, Nat.le_refl _, by rw [List.drop_zero]; exact p1⟩, ?_⟩
  rintro i m Hc ⟨Sc, gc, acc, xs, ls, rfl, hi, ec, wc, oc, hc, ha, nd, hm, hl, pc⟩
  obtain ⟨xs', hx', few⟩ := srt_pre pc
  cases ha.symm.trans hx'
  have hsb : (4096 : Nat) = scanBound := rfl
  by_cases hlt : i < all.length
  · rw [List.drop_eq_getElem_cons hlt, lcLoop, ckd_bind] at pc
    obtain ⟨dok, pc⟩ := ckd_ok pc
    obtain ⟨go, yl⟩ := (y Hc gc Sc i ec wc dok).2 all[i] (List.getElem?_eq_getElem hlt)
    refine .inr ⟨go, fun H' => ∃ m', m' < all.length - i ∧ ∃ Sc gc acc xs ls, m' = all.length - (i + 1) ∧ i + 1 ≤ all.length ∧ Ext H1 g1 H' gc ∧ WF k H' gc Sc ∧ Side H' gc D ∧ H' D = some (SetSO P ww D ls) ∧ strsD acc = some xs ∧ ls.Nodup ∧ (∀ z, z ∈ ls ↔ z ∈ xs.map mkS) ∧ ls.length ≤ xs.length ∧
      Post k (FRep k H) H1 g1 (fun c d => W c d σ) ((lcLoop dep all t tt te (wipeL L vs) (all.drop (i + 1)) Sc acc).bind srtR) Q, fun H' h => h, fun x H3 hy => ?_⟩
    obtain ⟨e3, w3, r3⟩ := yl x H3 hy
    have ec3 := ec.trans e3
    cases q : tgA t all[i] (wipeL L vs) with
    | none => rw [q] at pc; exact pc.elim
    | some L1 =>
      rw [q] at pc
      have pc : Post k (FRep k H) H1 g1 (fun c d => W c d σ) ((tt L1 Sc).nox.bind fun b S1 => (if b = true then (te L1 S1).nox.bind fun y S2 => if acc.length < sizeLine then lcLoop dep all t tt te (wipeL L vs) (all.drop (i + 1)) S2 (acc ++ [y]) else .no else lcLoop dep all t tt te (wipeL L vs) (all.drop (i + 1)) S1 acc).bind srtR) Q := by
        revert pc
        dsimp only
        cases tt L1 Sc <;> exact id
      refine ⟨all[i], wipeL L vs, Sc, gc, L1, r3, l1.ext ec3, w3, q, fun σ2 l2 f2 => ⟨wipe_frm f2 hs, L1, Sc, gc, l2, w3, Post.bindN pc fun b S4 b' H4 g4 e4 w4 rb p4 => ?_⟩⟩
      cases rb
      have ec4 := ec3.trans e4
      obtain ⟨o4, h4⟩ := side_on oc hc (e3.trans e4)
      cases b with
      | true =>
        have p4 : Post k (FRep k H) H1 g1 (fun c d => W c d σ) ((te L1 S4).nox.bind fun y S2 => (if acc.length < sizeLine then lcLoop dep all t tt te (wipeL L vs) (all.drop (i + 1)) S2 (acc ++ [y]) else .no).bind srtR) Q := by
          revert p4
          show Post k (FRep k H) H1 g1 (fun c d => W c d σ) (((te L1 S4).nox.bind fun y S2 => if acc.length < sizeLine then lcLoop dep all t tt te (wipeL L vs) (all.drop (i + 1)) S2 (acc ++ [y]) else .no).bind srtR) Q → _
          cases te L1 S4 <;> exact id
        show tE k WN te σ2 H4 _
        refine ⟨L1, S4, g4, l2.ext e4, w4, Post.bindN p4 fun d S5 v H5 g5 e5 w5 r5 p5 => ?_⟩
        obtain ⟨o5, h5⟩ := side_on o4 h4 e5
        have ec5 := ec4.trans e5
        by_cases hz : acc.length < sizeLine
        · rw [if_pos hz] at p5
          obtain ⟨xs2, hx2, few2⟩ := srt_pre p5
          obtain ⟨u, z, q1, q2, rfl⟩ := strsD_app hx2
          cases ha.symm.trans q1
          cases d with
          | str dk =>
            cases q2
            refine ⟨mkS dk, ls, r5, h5, by omega, all.length - (i + 1), by omega, S5, g5, acc ++ [.str dk], xs ++ [dk], if mkS dk ∈ ls then ls else mkS dk :: ls, rfl, hlt, side_ext ec5 hD, side_wf o5 w5, side_upd o5, upd_same, hx2, ?_, ?_, ?_, p5⟩
            · by_cases c : mkS dk ∈ ls
              · rw [if_pos c]; exact nd
              · rw [if_neg c]; exact List.nodup_cons.mpr ⟨c, nd⟩
            · intro z
              rw [List.map_append, List.mem_append, ← hm z]
              by_cases c : mkS dk ∈ ls
              · rw [if_pos c]
                constructor
                · exact .inl
                · rintro (h | h)
                  · exact h
                  · have h : z = mkS dk := by simpa using h
                    rw [h]; exact c
              · rw [if_neg c]
                simp [or_comm]
            · rw [List.length_append, List.length_singleton]
              by_cases c : mkS dk ∈ ls
              · rw [if_pos c]; omega
              · rw [if_neg c, List.length_cons]; omega
          | _ => cases q2
        · rw [if_neg hz] at p5
          exact p5.elim
      | false =>
        have p4 : Post k (FRep k H) H1 g1 (fun c d => W c d σ) ((lcLoop dep all t tt te (wipeL L vs) (all.drop (i + 1)) S4 acc).bind srtR) Q := p4
        exact ⟨_, by omega, S4, g4, acc, xs, ls, rfl, hlt, ec4, w4, o4, h4, ha, nd, hm, hl, p4⟩
  · have ei : all.length = i := by omega
    rw [List.drop_eq_nil_of_le (by omega), lcLoop, ckd_bind] at pc
    obtain ⟨dok, pc⟩ := ckd_ok pc
    refine .inl ⟨(y Hc gc Sc i ec wc dok).1 ei, D, ls, rfl, hc, by omega, fun ys q yp ysr hq => ?_⟩
    have pc : Post k (FRep k H) H1 g1 (fun c d => W c d σ) (srtR acc Sc) Q := pc
    unfold srtR at pc
    rw [ha] at pc
    have pc : Post k (FRep k H) H1 g1 (fun c d => W c d σ) (if xs.length < 4000 then .ok ((sortU xs).map .str) Sc else .no) Q := pc
    rw [if_pos few] at pc
    rw [srtS_eq hm nd yp ysr]
    have r0 : RepL k Hc gc ((sortU xs).map .str) (((sortU xs).map mkS).map V.str) := repL_strs _
    exact pc _ _ gc (ec.trans (Ext.new hq)) (wc.new hq) ⟨q, rfl, fresh_of e1 (fresh_of ec hq), own_new wc r0 hq⟩
theorem sf_srt (hc : X.calm = true) (hg0 : Gl X x) (hm0 : X.mg x = none) (hv : bootBuiltins x = some (.builtin "sorted")) (hx : x ≠ "__name__") (hd : (x == ("__debug__" : Str)) = false) (hN : X.N.Nodup) (hi : PI X tg iter (tI (kx X) Ext W mi)) (ok : BlkOk X.N X.env.scope scope own)
    (hg : ∀ (s : Shared) (H : Hp) (C : Addr) (cl : List (Str × Addr)) (fp : List Addr), PG (X.blk s H scope (compEnvC scope cl C X.env) fp) tg (tGt (kx X) t))
    (ht : ∀ (s : Shared) (H : Hp) (C : Addr) (cl : List (Str × Addr)) (fp : List Addr), PTs (X.blk s H scope (compEnvC scope cl C X.env) fp) ifs (tT (kx X) WN tt))
    (he : ∀ (s : Shared) (H : Hp) (C : Addr) (cl : List (Str × Addr)) (fp : List Addr), SE (X.blk s H scope (compEnvC scope cl C X.env) fp) WN elt te)
    (hs : ∀ i ∈ t.slots, i ∈ own.map (·.2)) (hm : notMark iter = true) : SF X W (.Call (.Name x p) [.SetComp elt [⟨tg, iter, ifs, 0⟩] scope spos] [] pos) (fSrt mi (own.map (·.2)) t tt te) :=
  PE.imp (pe_callB (cr_srtS hc) hg0 hm0 hv (pa_cons (pe_scS hc hN hi ok hg ht (fun s H C cl fp => blk_e hc (he s H C cl fp)) (no_fold hm)) pa_nil) hx hd) fun σ H Q q => sc_read hs q
end
theorem r_fSrt {mi : Ls → Sto → R Src} {own : List Nat} {t : Tg} {ta : Ls → Sto → R Bool} {m : EM} {L : Ls} {S : Sto} {PL : List D → Sto → Prop} (h : wp (mi L S) fun src S1 => wp (lcLoop src.2 src.1 t ta m (wipeL L own) src.1 S1 []) fun ds S2 => ∃ xs, strsD ds = some xs ∧ xs.length < 4000 ∧ PL ((sortU xs).map .str) S2) : wp (fSrt mi own t ta m L S) PL := by
  unfold fSrt
  rw [wp_bind]
  refine h.mono fun src S1 h => ?_
  rw [wp_bind]
  refine h.mono fun ds S2 ⟨xs, e, few, k⟩ => ?_
  unfold srtR
  rw [e]
  show wp (if xs.length < 4000 then _ else _) PL
  rw [if_pos few]
  exact ⟨k⟩
instance {mi : Ls → Sto → R Src} {own : List Nat} {t : Tg} {ta : Ls → Sto → R Bool} {m : EM} {L : Ls} {S : Sto} {PL : List D → Sto → Prop} : Wp (fSrt mi own t ta m L S) PL (wp (mi L S) fun src S1 => wp (lcLoop src.2 src.1 t ta m (wipeL L own) src.1 S1 []) fun ds S2 => ∃ xs, strsD ds = some xs ∧ xs.length < 4000 ∧ PL ((sortU xs).map .str) S2) := ⟨r_fSrt⟩
end Rf

set_option Elab.async false
set_option linter.all false
set_option maxRecDepth 100000
set_option maxHeartbeats 0
/-! Rf, part 24: sorted(set(xs)), xs a list of texts. -/
namespace Rf
open PySem PySem.Spec PyProof.Rows L2 TL
variable {xp : ExP}
open PySem.Froz (SD sObj TxOk addTx tailTx add_x add_ok is_str)

section
variable {P : Program} {w : World} {A : Around} {E : Value → Shared → Prop} {s : Shared}
/-- a member laid, by value -/
theorem setS_put {a : Addr} {l : List Str} {k : Str} {u : Tok} {Q : Bool → Shared → Prop} (R : SetS P w s.heap a l) (room : l.length + 1 < scanBound)
    (h : ∀ (b : Bool) h', Heap.SameBut a s.heap h' → SetS P w h' a (if k ∈ l then l else k :: l) → Q b { s with heap := h', toks := s.toks + 1 }) : wpAny (model P w) A (setAdd a (.str k u)) Q E s := by
  obtain ⟨D, ho, F, nd, wk⟩ := R
  unfold setAdd
  refine wpAny_holding (wpAny_bind ((strKind P w).pyHash (k := k) (is_str k u) ?_))
  by_cases hk : k ∈ l
  · rw [if_pos hk] at h
    exact add_old (s := { s with toks := s.toks + 1 }) ho F hk (by omega) (h false s.heap (Heap.SameBut.refl a s.heap) ⟨D, ho, F, nd, wk⟩)
  · rw [if_neg hk] at h
    refine add_x (s := { s with toks := s.toks + 1 }) ho F hk room (h true _ (Heap.SameBut.update s.heap a _) ?_)
    exact ⟨_, Heap.get?_update_self _ ho rfl, add_ok u F, List.nodup_cons.mpr ⟨hk, nd⟩, wk_add wk _ _⟩
/-- what a walk over texts lays -/
structure Has (xs : List Str) (i : Nat) (l : List Str) : Prop where
  nd : l.Nodup
  mem : ∀ k, k ∈ l ↔ k ∈ xs.take i
  len : l.length ≤ i
theorem Has.next {xs : List Str} {i : Nat} {l : List Str} {k : Str} (h : Has xs i l) (hk : xs[i]? = some k) : Has xs (i + 1) (if k ∈ l then l else k :: l) := by
  have e : xs.take (i + 1) = xs.take i ++ [k] := by rw [List.take_add_one, hk]; rfl
  by_cases c : k ∈ l
  · rw [if_pos c]
    refine ⟨h.nd, fun z => ?_, Nat.le_succ_of_le h.len⟩
    rw [e, List.mem_append, ← h.mem z]
    exact ⟨.inl, fun q => q.elim id fun q => by rw [List.mem_singleton.mp q]; exact c⟩
  · rw [if_neg c]
    refine ⟨List.nodup_cons.mpr ⟨c, h.nd⟩, fun z => ?_, Nat.succ_le_succ h.len⟩
    rw [e, List.mem_append, ← h.mem z, List.mem_singleton, List.mem_cons]
    exact or_comm
end
section
variable {P : Program} {w : World} {A : Around} {R : Result → Shared → Prop} {I : Addr} {fp wr : List Addr} {G : Array GenState → Array GenState → Prop} {n : Nat} {Pv : Nat → Value → Prop} {St : Nat → Shared → Prop}
theorem upd_loop (W : WalksS P w A.in1 I fp wr G n Pv St) (a : Addr) (hf : a ∉ fp) (xs : List Str) (hn : xs.length = n) (hb : n < 4000)
    (hv : ∀ i v, Pv i v → ∃ k t, v = .str k t ∧ xs[i]? = some k) : ∀ (m i : Nat) (s : Shared) (l : List Str), n - i = m → i ≤ n → St i s → SetS P w s.heap a l → Has xs i l →
      (∀ s' l', Moved (a :: wr) G s s' → SetS P w s'.heap a l' → Has xs n l' → R (.ok (.ret .none)) s') →
      codeAny (model P w) A (.builtin "set.update.loop" ⟨[.ref a, .ref I], []⟩) R s := by
  have sw : a ∉ wr := fun h => hf (W.sub _ h)
  have sb : ∀ b ∈ wr, b ∈ a :: wr := fun b h => List.mem_cons_of_mem _ h
  have bd : (4096 : Nat) = scanBound := rfl
  intro m
  induction m with
  | zero =>
    intro i s l hm hi hst hS hh hR
    have e : i = n := by omega
    subst e
    refine codeAny_builtin PyProof.Rows.F.entry_set_update_loop ?_
    rw [Around.under_plainId PyProof.Rows.F.plain_set_update_loop _]
    show wpAny _ A.in1 (pyNext (.ref I) >>= _) _ _ s
    refine wpAny_bind (W.done s _ _ hst fun s' mv => ?_)
    show wpAny _ A.in1 (ret Value.none) _ _ s'
    exact wpAny_pure (hR s' l (mv.mono sb) (hS.at fun o q => mv.heap a _ sw q) hh)
  | succ m ih =>
    intro i s l hm hi hst hS hh hR
    have lt : i < n := by omega
    refine codeAny_builtin PyProof.Rows.F.entry_set_update_loop ?_
    rw [Around.under_plainId PyProof.Rows.F.plain_set_update_loop _]
    show wpAny _ A.in1 (pyNext (.ref I) >>= _) _ _ s
    refine wpAny_bind (W.item i s _ _ lt hst fun v s' hp hst' mv => ?_)
    obtain ⟨k, t, rfl, hk⟩ := hv i v hp
    have hS' : SetS P w s'.heap a l := hS.at fun o q => mv.heap a _ sw q
    have hl := hh.len
    show wpAny _ A.in1 (holding [Value.str k t] (setAdd a (.str k t)) >>= _) _ _ s'
    refine wpAny_bind (wpAny_holding (setS_put hS' (by omega) fun b h' sm hS2 => ?_))
    refine wpAny_pure ⟨plainId_quiet PyProof.Rows.F.plain_set_update_loop _, ih (i + 1) _ _ (by omega) lt (W.frame _ s' _ _ hst' (Nat.le_succ _) fun b hb o e => ?_) hS2 (hh.next hk) fun s2 l2 m2 S2 h2 => ?_⟩
    · rw [sm.2 b (fun z : b = a => hf (by rw [← z]; exact hb))]; exact e
    · refine hR s2 l2 (Moved.trans W.gtrans ((mv.mono sb).then_heap (Nat.le_succ _) fun b o hb e => ?_) m2) S2 h2
      rw [sm.2 b (fun z : b = a => hb (by rw [z]; exact List.mem_cons_self))]; exact e
end
section
variable {P : Program} {w : World} {A : Around} {E : Value → Shared → Prop} {s : Shared}
theorem new_led (v : Value) {Q : Value → Shared → Prop} (h : Q (.ref s.heap.objs.size) { s with heap := s.heap.push { cls := .type "set", dict := none, data := .set #[] 0 (.fresh 0 0 (!w.params.followText "set-order")) } }) :
    codeAny (model P w) A (.call (.builtin "set.__new__") ⟨[.type "set", v], []⟩) (wants Q E) s := by
  refine codeAny_of_tree ?_
  show wpAny _ A.in1 (checkBuiltinCall "set.__new__" ⟨[.type "set", v], []⟩ >>= fun _ => again (.builtin "set.__new__" ⟨[.type "set", v], []⟩)) _ _ s
  refine wpAny_bind (wpAny_of_eq (PySem.F.newCall_set_1 v) (wpAny_pure ⟨plainId_quiet PySem.F.plain_set_new _, codeAny_builtin PySem.F.entry_set_new ?_⟩))
  rw [Around.under_plainId PySem.F.plain_set_new _]
  unfold Builtin.«set.__new__»
  unfold Builtin.Frozenset.newClass
  have hsub := sub_set_self
  obtain ⟨hp, gn, dr, tk, os⟩ := s
  dsimp only
  wp_walk
  refine wpAny_askSetting (wpAny_pure ?_)
  dsimp only
  simp only [newObj]
  exact wpAny_bind (wpAny_alloc (wpAny_pure (wpAny_pure h)))
theorem call_setL {l : Addr} {items : Array Value} {xs : List Str} {Q : Value → Shared → Prop} (hh : A.handled = none) (hl : s.heap.IsList l items) (hi : StrsAre items.toList xs) (hb : xs.length < 4000)
    (h : ∀ (h' : Heap) (tk : Nat) (m : List Str), SetS P w h' s.heap.objs.size m → Has xs xs.length m → (∀ b o, s.heap.get? b = some o → h'.get? b = some o) → Q (.ref s.heap.objs.size) { s with heap := h', toks := tk }) :
    wpAny (model P w) A (call (.type "set") [.ref l]) Q E s := by
  obtain ⟨c, tl, hmro⟩ := PySem.F.called_set.mro
  have hmade := PySem.F.called_set.made
  have hsub := PySem.F.called_set.sub
  refine wpAny_call (codeAny_of_tree ?_)
  show wpAny _ _ (callAny (.type "set") _) _ _ _
  refine wpAny_pure ⟨Code.quiet_builtin _ (by decide +kernel), codeAny_builtin PySem.F.entry_type_call ?_⟩
  rw [Around.under_plain (weight_type_call_type "set" [.ref l] []) rfl]
  have h1 := PySem.F.called_set.notType
  have h2 := PySem.F.called_set.canCreate
  have hct := PySem.F.typeCall_set_1 (.ref l)
  repeat (any_goals (first | assumption | wp_step))
  generalize hz0 : s.heap.push { cls := .type "set", dict := none, data := .set #[] 0 (.fresh 0 0 (!w.params.followText "set-order")) } = hp0
  refine codeAny_mono (new_led (.ref l) (E := E) (Q := fun obj s1 => obj = .ref s.heap.objs.size ∧ s1 = { s with heap := hp0 }) (by rw [hz0]; exact ⟨rfl, rfl⟩)) fun r s1 hr => ?_
  cases r with
  | error e => exact hr
  | ok fl =>
    cases fl with
    | ret obj =>
      obtain ⟨rfl, rfl⟩ := hr
      have hS : hp0.get? s.heap.objs.size = some { cls := .type "set", dict := none, data := .set #[] 0 (.fresh 0 0 (!w.params.followText "set-order")) } := by
        rw [← hz0]; exact Heap.get?_push_size _ rfl
      have hS0 : SetS P w hp0 s.heap.objs.size [] := by
        rw [← hz0]; exact setS_fresh
      have keep0 : ∀ b o, s.heap.get? b = some o → hp0.get? b = some o := fun b o e => by
        rw [← hz0]; exact Heap.get?_push_of_some _ e
      have size0 : hp0.objs.size = s.heap.objs.size + 1 := by
        rw [← hz0]; exact Heap.size_push ..
      have hT : Shared.TypeIs { s with heap := hp0 } (.ref s.heap.objs.size) "set" := ⟨_, hS, rfl⟩
      have hli := PySem.F.called_set.init.lookup
      have hbi := PySem.F.called_set.init.bind (.ref s.heap.objs.size)
      repeat (any_goals (first | assumption | wp_step))
      refine codeAny_mono (codeAny_call_builtin (R := wants (fun r s2 => r = .none ∧ ∃ h' tk m, s2 = { s with heap := h', toks := tk } ∧ SetS P w h' s.heap.objs.size m ∧ Has xs xs.length m ∧ ∀ b o, s.heap.get? b = some o → h'.get? b = some o) E)
        PySem.F.called_set.init.plain PySem.F.entry_set_init (check_set_init_1 hT ?_)) fun r2 s2 hr2 => ?_
      · obtain ⟨⟨ocls, odict, odata, oslots⟩, hol, hcl, nl, hdl⟩ := hl
        simp only at hcl hdl
        subst hcl; subst hdl
        have hol1 := keep0 _ _ hol
        have hsls := PySem.F.sub_list_set
        have hslf := PySem.F.sub_list_frozenset
        have hne : (Value.type "list" == Value.type "dict") = false := by decide
        have hl1 : hp0.IsList l items := ⟨_, hol1, rfl, nl, rfl⟩
        have llt : l < s.heap.objs.size := Heap.lt_size hol
        unfold Builtin.«set.__init__»
        unfold noKeywords
        unfold Builtin.Frozenset.updateFrom
        generalize hPI : pyIter = PI
        wp_walk
        subst hPI
        refine wpAny_pyIter_list hl1 ?_
        refine wpAny_bind (wpAny_runValue ?_)
        have hh3 : A.in1.in1.in1.handled = none := by simp [hh]
        have lI : l ≠ hp0.objs.size := by rw [size0]; exact Nat.ne_of_lt (Nat.lt_succ_of_lt llt)
        have aI : s.heap.objs.size ∉ [hp0.objs.size, l] := by
          rw [size0]
          simp only [List.mem_cons, List.not_mem_nil, or_false, not_or]
          exact ⟨Nat.ne_of_lt (Nat.lt_succ_self _), Nat.ne_of_gt llt⟩
        have hz : xs.length = items.size := by rw [← StrsAre.len_eq hi, Array.length_toList]
        have hval : ∀ (i : Nat) (v : Value), items[i]? = some v → ∃ k t, v = .str k t ∧ xs[i]? = some k := fun i v hv => by
          obtain ⟨t, e⟩ := SS.strs_at hi i v (by rw [Array.getElem?_toList]; exact hv)
          have il : i < xs.length := by
            rw [hz]
            exact (Array.getElem?_eq_some_iff.mp hv).1
          refine ⟨_, t, e, ?_⟩
          rw [List.getD_eq_getElem?_getD, List.getElem?_eq_getElem il]
          rfl
        refine upd_loop ((Walks.list hh3 _ l lI items).toS) s.heap.objs.size aI xs hz (by omega) hval (items.size - 0) 0 _ [] (by omega) (Nat.zero_le _)
          ⟨⟨_, Heap.get?_push_size _ rfl, rfl, rfl⟩, (hl1.push _)⟩ (hS0.at fun o q => Heap.get?_push_of_some _ q) ⟨List.nodup_nil, fun k => by simp, Nat.le_refl _⟩ fun s' m mv hS' hm => ?_
        obtain ⟨h', g', d', tk', os'⟩ := s'
        have eg : g' = s.gens := mv.gens
        have ed : d' = s.drawn := mv.drawn
        have eo : os' = s.os := mv.os
        subst eg; subst ed; subst eo
        refine wpAny_pure ?_
        show wpAny _ _ (ret Value.none) _ _ _
        refine wpAny_pure ⟨rfl, h', tk', m, rfl, hS', by rw [hz]; exact hm, fun b o e => ?_⟩
        have lt := Heap.lt_size e
        exact mv.heap b o (by rw [size0]; simp only [List.mem_cons, List.not_mem_nil, or_false, not_or]; exact ⟨Nat.ne_of_lt lt, Nat.ne_of_lt (Nat.lt_succ_of_lt lt)⟩) (Heap.get?_push_of_some _ (keep0 b o e))
      · cases r2 with
        | error e => exact hr2
        | ok fl2 =>
          cases fl2 with
          | ret r =>
            obtain ⟨rfl, h', tk, m, rfl, hS', hm, hk⟩ := hr2
            repeat (any_goals (first | assumption | wp_step))
            exact h _ _ m hS' hm hk
          | _ => exact hr2.elim
    | _ => exact hr.elim
end
section
variable {X : Cx}
def rSetL (K : PySem.W.Frag) (P : Program) (w : World) : List V → Hp → VK → Prop := fun vs H Q => ∃ (a : Addr) (xs : List Str), vs = [V.ref a] ∧ SqL K H a (xs.map V.str) ∧ xs.length < 4000 ∧
  ∀ (m : List Str) (p : Addr), m.Nodup → (∀ k, k ∈ m ↔ k ∈ xs) → m.length ≤ xs.length → H p = none → Q (.ref p) (upd H p (SetSO P w p m))
theorem cr_setL (hc : X.calm = true) : CallR X (.type "set") (rSetL X.K X.prog X.w) := by
  intro pins s σ H vs us Q I r h
  obtain ⟨a, xs, rfl, hs, hb, q⟩ := h
  obtain ⟨its, rv, hl, _⟩ := I.list hs
  rw [Vals.ref1 r]
  refine call_setL (I.ok.hd hc) hl.isList rv.strs hb fun h' tk m hS hm hk => ?_
  refine ⟨.ref s.heap.objs.size, upd H s.heap.objs.size (SetSO X.prog X.w s.heap.objs.size m), I.laid (t' := tk) (fun b o e => hk b o e) (Nat.le_refl _) (setSO_new hS), rfl, q m _ hm.nd (fun k => ?_) hm.len (I.hok.fresh (Nat.le_refl _))⟩
  rw [hm.mem, List.take_length]
end
/-- sorted(set(xs)) -/
def bSrtL : List D → Option (List D)
  | [.lst ds] => (strsD ds).bind fun xs => if xs.length < 4000 then some ((sortU xs).map .str) else none
  | _ => none
theorem sf_srtL {X : Cx} {W : WX} {x y : Str} {p pos p2 pos2 : Pos} {e : Expr} {m : EM} (hc : X.calm = true) (hg : Gl X x) (hm : X.mg x = none) (hv : bootBuiltins x = some (.builtin "sorted")) (hx : x ≠ "__name__") (hd : (x == ("__debug__" : Str)) = false)
    (hg2 : Gl X y) (hm2 : X.mg y = none) (hv2 : bootBuiltins y = some (.type "set")) (hx2 : y ≠ "__name__") (hd2 : (y == ("__debug__" : Str)) = false) (he : SP X W e m) (hs : noStar e = true) :
    SF X W (.Call (.Name x p) [.Call (.Name y p2) [e] [] pos2] [] pos) (fCall bSrtL (aCons m aNil)) := by
  refine PE.imp (pe_callB (cr_srtS hc) hg hm hv (pa_cons (pe_callTy (cr_setL hc) hg2 hm2 hv2 (pa_cons he pa_nil (star_cons hs)) hx2 hd2 (star_cons hs) rfl) pa_nil) hx hd) fun σ H Q ⟨L, S, g, l, w, q⟩ => ?_
  have q0 : Post (kx X) (FRep (kx X) H) H g (fun c d => W c d σ) ((m L S).bind fun d S1 => lift (bSrtL [deref S1 d]) S1) Q := by
    have e : fCall bSrtL (aCons m aNil) L S = (m L S).bind fun d S1 => lift (bSrtL [deref S1 d]) S1 := by
      unfold fCall aCons aNil
      cases m L S <;> rfl
    rw [← e]
    exact q
  refine ⟨L, S, g, l, w, Post.bind q0 fun d S1 v H1 g1 e1 w1 r1 p1 => ?_⟩
  have c1 := r1.c (l.ext e1) w1
  generalize deref S1 d = dd at c1 p1
  cases dd with
  | lst ds =>
    obtain ⟨a, vs, rfl, ha, rl⟩ := c1
    cases z : strsD ds with
    | none =>
      have p1 : Post (kx X) (FRep (kx X) H) H1 g1 (fun c d => W c d σ) (lift ((strsD ds).bind _) S1) Q := p1
      rw [z] at p1
      exact p1.elim
    | some xs =>
      have p1 : Post (kx X) (FRep (kx X) H) H1 g1 (fun c d => W c d σ) (lift ((strsD ds).bind fun xs => if xs.length < 4000 then some ((sortU xs).map .str) else none) S1) Q := p1
      rw [z] at p1
      have p1 : Post (kx X) (FRep (kx X) H) H1 g1 (fun c d => W c d σ) (lift (if xs.length < 4000 then some ((sortU xs).map .str) else none) S1) Q := p1
      by_cases few : xs.length < 4000
      · rw [if_pos few] at p1
        have ev := strsD_v z rl
        have bd : (4096 : Nat) = scanBound := rfl
        refine ⟨a, xs.map mkS, rfl, by rw [ev] at ha; exact SqL.of ha, by rw [List.length_map]; exact few, fun ms p nd hmem hle hp => ⟨p, ms, rfl, upd_same, by rw [List.length_map] at hle; omega, fun ys q yp ysr hq => ?_⟩⟩
        rw [srtS_eq hmem nd yp ysr]
        have w2 := w1.new (o := SetSO X.prog X.w p ms) hp
        have r0 : RepL (kx X) (upd H1 p (SetSO X.prog X.w p ms)) g1 ((sortU xs).map .str) (((sortU xs).map mkS).map V.str) := repL_strs _
        exact p1 _ _ g1 ((Ext.new hp).trans (Ext.new hq)) (w2.new hq) ⟨q, rfl, fresh_of e1 (fresh_of (Ext.new (g := g1) hp) hq), own_new w2 r0 hq⟩
      · rw [if_neg few] at p1
        exact p1.elim
  | _ => exact p1.elim
end Rf

set_option Elab.async false
set_option linter.all false
set_option maxRecDepth 100000
set_option maxHeartbeats 4000000
/-! Rf, part 25: own exceptions: raised, caught, asked. -/
namespace Rf
open PySem L2 TL

/-! ### raise C(x), where C's own maker stores x as the field f -/
def sRaise (c f : Str) (m : EM) : SM := fun L S => (m L S).st L fun d S1 => .ex ⟨c, [(f, d)]⟩ L S1
/-- a made one -/
structure XMade (f : Str) (h h' : Heap) (e C d : Addr) (v : Value) : Prop where
  keep : ∀ b o, h.get? b = some o → h'.get? b = some o
  new : h.objs.size ≤ e
  obj : ∃ oe vs, h'.get? e = some oe ∧ oe.cls = .ref C ∧ oe.dict = some d ∧ oe.data = .fields vs ∧ vs[1]? = some .none
  dbig : h.objs.size ≤ d
  dne : d ≠ e
  ns : h'.Ns1 d (fun y => if y = f then some v else none)
/-- what is known of a class that is raised with one field -/
structure RaiseC (P : Program) (w : World) (K : PySem.W.Frag) (mg : Str → Option Value) (c f : Str) (C : Addr) : Prop where
  gC : mg c = some (.ref C)
  kC : PySem.W.keepIn K (.ref C) = true
  exC : PySem.W.subIn K (.ref C) (.type "BaseException") = some true
  tyC : PySem.W.typeIn K (.ref C) = some (.type "type")
  made : ∀ {A : Around} {R : Result → Shared → Prop} {s : Shared} {v : Value}, K.In s.heap → s.heap.NoLimit → A.depth + 1 < recursionLimit →
    (∀ h' tk e d, XMade f s.heap h' e C d v → R (.ok (.ret (.ref e))) { s with heap := h', toks := tk }) → codeAny (model P w) A (.call (.ref C) ⟨[v], []⟩) R s
def RaiseIn (P : Program) (w : World) (K : PySem.W.Frag) (mg : Str → Option Value) (c f : Str) : Prop := ∃ C, RaiseC P w K mg c f C
theorem relO_one {v : V} {v' : Value} (f : Str) (r : RelV v v') (y : Str) : RelO (List.lookup y [(f, v)]) (if y = f then some v' else none) := by
  by_cases hw : y = f
  · subst hw
    have q : List.lookup y [(y, v)] = some v := by simp [List.lookup]
    rw [if_pos rfl, q]
    exact r
  · have q1 : (y == f) = false := by simpa using hw
    have q2 : List.lookup y [(f, v)] = none := by simp [List.lookup, q1]
    rw [if_neg hw, q2]
    trivial
section
variable {X : Cx} {C : Addr} {c f : Str}
def tMk1 (C : Addr) (f : Str) (ta : TA) : L2.St → Hp → XK → Prop := fun σ H Q => ta σ H fun vs H1 => ∃ v, vs = [v] ∧ ∀ d, H1 d = none → Q (.ref C) (some d) (upd H1 d (.xd [(f, v)]))
theorem pmk_one {a : Expr} {ta : TA} {p pos : Pos} {k : Nat} (T : RaiseC X.prog X.w X.K X.mg c f C) (hr : Room (k + 1) X.A) (ha : PA X [a] ta) (hg : Gl X c) (hdb : (c == ("__debug__" : Str)) = false)
    (he : starEach (a :: []) X.env = (false, eval a X.env) :: starEach [] X.env) (hpl : (backTo pos (starEach [] X.env)).any (·.1) = false) :
    PMk X (.Call (.Name c p) [a] [] pos) (tMk1 C f ta) := by
  intro pins s σ H Q I h
  refine wpAny_Call_Name_kw (ld_glob I hg T.gC ?_ hdb)
  refine PySem.W.callWith_K (h₀ := X.base) I.ok.mod.kin T.kC (thn (ha.run pos pins s σ H _ I h) fun us s1 hh => ?_) he hpl
  obtain ⟨vs, H1, I1, r1, v, ev, q1⟩ := hh
  subst ev
  refine ⟨I1.kIn, ?_⟩
  cases r1 with
  | cons rv rn =>
    rename_i v' us'
    cases rn
    show wpAny _ _ (call (.ref C) [v']) _ _ _
    have hlim := I1.nolimit
    obtain ⟨hp, gn, dr, tk, os⟩ := s1
    refine wpAny_call (T.made I1.kIn hlim (by have := hr.dp; omega) fun h' tk' e d M => ?_)
    show MkP X pins σ Q (.ref e) ⟨h', gn, dr, tk', os⟩
    obtain ⟨oe, fv, hoe, hc, hd, hdat, h1⟩ := M.obj
    have hns := M.ns
    obtain ⟨G', g1, g2⟩ := restrict h' fun b => decide (b ≠ e)
    have gk : ∀ b, b ≠ e → G'.get? b = h'.get? b := fun b hb => g1 b (decide_eq_true hb)
    have ge : G'.get? e = none := g2 e (by simp)
    have old : ∀ b o, hp.get? b = some o → G'.get? b = some o := fun b o q => (gk b (Nat.ne_of_lt (Nat.lt_of_lt_of_le (Heap.lt_size q) M.new))).trans (M.keep b o q)
    have ob : ObjOk X.prog X.w (upd H1 d (.xd [(f, v)])) G' d (.xd [(f, v)]) :=
      ⟨_, hns.at (fun o q => (gk d M.dne).trans q), fun y => relO_one f rv y⟩
    have J : Inv X pins σ (upd H1 d (.xd [(f, v)])) ⟨G', gn, dr, tk', os⟩ := I1.laid (t' := tk') old M.dbig ob
    refine ⟨e, oe, fv, ⟨G', gn, dr, tk', os⟩, _, .ref C, some d, rfl, J, fun b o q => ?_, ge, hoe, ⟨hc, hd⟩, hdat, h1, ?_, rfl, I1.bare, raises_own T.exC T.tyC, q1 d (I1.hok.fresh M.dbig)⟩
    · by_cases hb : b = e
      · have q' : G'.get? b = some o := q
        rw [hb, ge] at q'; cases q'
      · exact (gk b hb).symm.trans q
    · rw [upd_ne (Ne.symm M.dne)]
      exact I1.hok.fresh M.new
theorem ss_raise1 {a : Expr} {m : EM} {W : WX} {p pos pos2 : Pos} {k : Nat} (T : RaiseIn X.prog X.w X.K X.mg c f) (hc : X.calm = true) (tk : Takes X W) (hr : Room (k + 1) X.A) (ha : SE X W a m) (hs : noStar a = true) (hg : Gl X c) (hdb : (c == ("__debug__" : Str)) = false) :
    SS X W (.Raise (some (.Call (.Name c p) [a] [] pos)) none pos2) (sRaise c f m) := by
  obtain ⟨C, T⟩ := T
  refine PS.imp (ps_raise hc tk (pmk_one (ta := tCons (tE (kx X) W m) tNil) T hr (pa_cons ha pa_nil (star_cons hs)) hg hdb (star_cons hs) rfl)) fun D σ H ⟨L, S, g, B, gB, fr, p⟩ => ?_
  refine ⟨L, S, g, fr.loc, fr.wf, st_e fr p fun d S1 v H1 g1 f1 e1 r p1 => ⟨v, rfl, fun dd hd => ?_⟩⟩
  refine p1 (.ref C) (some dd) σ _ (g1.frz dd) (f1.ext (Ext.newFrz hd) (f1.wf.newFrz hd)) (Ext.newFrz hd).toPExt ⟨C, T.gC, rfl, fun y e q => ?_⟩
  have q' : List.lookup y [(f, d)] = some e := q
  rw [List.lookup_cons] at q'
  cases z : (y == f) with
  | false => rw [z] at q'; cases q'
  | true =>
    rw [z] at q'
    have ed : d = e := by simpa using q'
    subst ed
    exact ⟨dd, _, v, rfl, .inl rfl, upd_same, by rw [List.lookup_cons, z], r.mono (Ext.newFrz hd).toPExt _ _⟩
end

/-! ### try: .. except X as n: .. -/
def noX (L : Ls) : Bool := L.all fun
  | .exc _ => false
  | _ => true
theorem noX_no {L : Ls} (h : noX L = true) {i : Nat} {x : Exn} : L[i]? ≠ some (.exc x) := fun q => by
  have z := List.all_eq_true.mp h _ (List.mem_of_getElem? q)
  cases z
abbrev IsT := Str → Option Bool
/-- which classes the clause's class takes -/
def IsK (K : PySem.W.Frag) (mg : Str → Option Value) (cv : Value) (is : IsT) : Prop := ∀ c b, is c = some b → ∃ C, mg c = some (.ref C) ∧ PySem.W.exmOne K (.ref C) cv = some b
def suR (i : Nat) : RS → RS
  | .ok f L2 S2 => if noX (L2.set i .un) = true then .ok f (L2.set i .un) S2 else .no
  | _ => .no
def sTry (is : IsT) (i : Nat) (b su : SM) : SM := fun L S => match b L S with
  | .ex x L1 S1 => match is x.cls with
    | some true => suR i (su (L1.set i (.exc x)) S1)
    | some false => .ex x L1 S1
    | none => .no
  | r => r
theorem LocRel.kc {k k' : Kx} {σ : L2.St} {L : Ls} {H : Hp} {g : G} (h1 : k'.K = k.K) (h2 : k'.mg = k.mg) (l : LocRel k σ L H g) (hx : ∀ (i : Nat) (x : Exn), L[i]? ≠ some (.exc x)) : LocRel k' σ L H g where
  len := l.len
  val := fun i d q => by
    obtain ⟨v, a, b⟩ := l.val i d q
    exact ⟨v, a, Rep.kc h1 h2 _ _ b⟩
  own := fun i o q => by
    obtain ⟨a, b, c⟩ := l.own i o q
    exact ⟨a, b, c.1.kc h1 h2, c.2⟩
  sep := l.sep
  exc := fun i x q => absurd q (hx i x)
theorem Fr.kc {k k' : Kx} {B : Hp} {gB : G} {σ : L2.St} {L : Ls} {H : Hp} {g : G} {S : Sto} (h1 : k'.K = k.K) (h2 : k'.mg = k.mg) (f : Fr k B gB σ L H g S) (hx : ∀ (i : Nat) (x : Exn), L[i]? ≠ some (.exc x)) : Fr k' B gB σ L H g S :=
  ⟨f.loc.kc h1 h2 hx, f.wf.kc h1 h2, f.base, f.new⟩
/-- a slot is given something that is no value -/
theorem Fr.lay {k : Kx} {B : Hp} {gB : G} {σ : L2.St} {L : Ls} {H : Hp} {g : G} {S : Sto} {i : Nat} {ov : Option V} {lv : LV} (f : Fr k B gB σ L H g S) (n1 : ∀ d, lv ≠ .v d) (n2 : ∀ o, lv ≠ .o o)
    (hx : ∀ x, lv = .exc x → i < L.length → ∃ a oe, k.cur = some (a, oe) ∧ ov = some (.ref a) ∧ XRep k H g x oe.cls oe.dict) : Fr k B gB (σ.set i ov) (L.set i lv) H g S := by
  have key : ∀ {j : Nat} {u : LV}, (L.set i lv)[j]? = some u → (i = j ∧ u = lv ∧ i < L.length) ∨ (i ≠ j ∧ L[j]? = some u) := fun {j u} q => by
    by_cases hj : i = j
    · subst hj
      by_cases hl : i < L.length
      · rw [List.getElem?_set_self hl] at q
        exact .inl ⟨rfl, (Option.some.inj q).symm, hl⟩
      · rw [List.getElem?_eq_none (by rw [List.length_set]; omega)] at q; cases q
    · rw [List.getElem?_set_ne hj] at q
      exact .inr ⟨hj, q⟩
  have ownK : ∀ {j : Nat} {o : O}, (L.set i lv)[j]? = some (.o o) → i ≠ j ∧ L[j]? = some (.o o) := fun {j o} q => by
    rcases key q with ⟨_, e, _⟩ | z
    · exact absurd e.symm (n2 o)
    · exact z
  refine ⟨⟨by rw [List.length_set, List.length_set, f.loc.len], fun j d q => ?_, fun j o q => ?_, fun j l u w b hj hl pj pl => ?_, fun j x q => ?_⟩, f.wf, f.base, fun j o a q q' => ?_⟩
  · rcases key q with ⟨_, e, _⟩ | ⟨hj, q⟩
    · exact absurd e.symm (n1 d)
    · rw [List.getElem?_set_ne hj]
      exact f.loc.val j d q
  · obtain ⟨hj, q⟩ := ownK q
    rw [List.getElem?_set_ne hj]
    exact f.loc.own j o q
  · obtain ⟨ij, hj⟩ := ownK hj
    obtain ⟨il, hl⟩ := ownK hl
    rw [List.getElem?_set_ne ij] at pj
    rw [List.getElem?_set_ne il] at pl
    exact f.loc.sep j l u w b hj hl pj pl
  · rcases key q with ⟨hj, e, hl⟩ | ⟨hj, q⟩
    · subst hj
      obtain ⟨a, oe, c1, c2, c3⟩ := hx x e.symm hl
      exact ⟨a, oe, c1, by rw [List.getElem?_set_self (by rw [f.loc.len]; exact hl), c2], c3⟩
    · rw [List.getElem?_set_ne hj]
      exact f.loc.exc j x q
  · obtain ⟨hj, q⟩ := ownK q
    rw [List.getElem?_set_ne hj] at q'
    exact f.new j o a q q'
/-- the suite's wish, whatever object the exception is -/
def tSu (X : Cx) (su : SM) : Addr → Value → Option Addr → TS := fun a cls d D σ H => ∀ oe : Obj, Zc cls d oe → tS ⟨X.K, X.mg, some (a, oe)⟩ WN su D σ H
section
variable {X : Cx} {W : WX} {x n : Str} {cv : Value} {i : Nat} {body suite : List Stmt} {b₀ : Stmt} {np pos pos' : Pos} {is : IsT} {b su : SM}
theorem tr_k (hc : X.calm = true) {pn : List (Addr × Obj)} {xe : Value → Shared → Prop} : kx (X.tr pn xe) = kx X := by rw [kx_calm hc, kx_calm (X := X.tr pn xe) hc]
theorem su_k {a : Addr} {oe : Obj} {pn : List (Addr × Obj)} : kx (X.suite a ((a, oe) :: pn)) = ⟨X.K, X.mg, some (a, oe)⟩ := rfl
theorem ss_try (hc : X.calm = true) (hs : X.stack = X.env :: X.outer) (hf : X.env.frame = some X.env.locals) (hN : X.N.Nodup) (hi : X.N[i]? = some n) (hln : X.env.kindOf n = some .local) (hcn : Names X x cv) (hk : IsK X.K X.mg cv is) (tk : Takes X W)
    (hb : ∀ (W : WX) (pn : List (Addr × Obj)) (xe : Value → Shared → Prop), Takes (X.tr pn xe) W → PassesOwn (model X.prog X.w) X.A X.env xe → SB (X.tr pn xe) W body b)
    (hsu : ∀ (a : Addr) (oe : Obj) (pn : List (Addr × Obj)), (∃ vs, oe.data = .fields vs) → SB (X.suite a ((a, oe) :: pn)) WN (b₀ :: suite) su) :
    SS X W (.Try body [.ExceptHandler (some (.Name x np)) (some n) (b₀ :: suite) pos'] [] [] pos) (sTry is i b su) := by
  refine PS.imp (ps_try_as (tb := fun W => tS (kx X) W b) (ts := tSu X su) hs hf hN hi hln hcn tk (fun W pn xe tk' pss => ?_) (fun a oe cls d pn hz hv => ?_)) fun D σ H ⟨L, S, g, B, gB, f, p⟩ => ⟨L, S, g, B, gB, f, ?_⟩
  · have h := hb W pn xe tk' pss
    have e : tS (kx (X.tr pn xe)) W b = tS (kx X) W b := by rw [tr_k hc]
    rw [← e]
    exact h
  · exact PSs.imp (hsu a oe pn hv) fun D σ H h => h oe hz
  · unfold sTry at p
    cases q : b L S with
    | no => rw [q] at p; exact p
    | ok fl L1 S1 => rw [q] at p; exact p
    | ex z L1 S1 =>
      rw [q] at p
      intro c d σ' H' g' f' e' xr
      cases q2 : is z.cls with
      | none => simp only [q2] at p; exact p.elim
      | some bb =>
        obtain ⟨C, m1, m2⟩ := hk _ _ q2
        obtain ⟨C', m3, m4, m5⟩ := id xr
        have m3' : X.mg z.cls = some (.ref C') := m3
        rw [m1] at m3'
        cases m3'
        subst m4
        refine ⟨bb, m2, fun hbb a ha oe hz => ?_, fun hbb => ?_⟩
        · subst hbb
          simp only [q2] at p
          have nx : ∀ (j : Nat) (y : Exn), L1[j]? ≠ some (.exc y) := fun j y qq => by
            obtain ⟨a', oe', c1, _⟩ := f'.loc.exc j y qq
            rw [kx_calm hc] at c1
            cases c1
          have f2 := (Fr.kc (k := kx X) (k' := ⟨X.K, X.mg, some (a, oe)⟩) rfl rfl f' nx).lay (i := i) (ov := some (V.ref a)) (lv := .exc z) nofun nofun fun y ey _ => by
            cases ey
            exact ⟨a, oe, rfl, rfl, by rw [hz.1, hz.2]; exact XRep.kc (k := kx X) (k' := ⟨X.K, X.mg, some (a, oe)⟩) rfl rfl xr⟩
          refine ⟨_, S1, g', B, gB, f2, ?_⟩
          unfold suR at p
          cases q3 : su (L1.set i (.exc z)) S1 with
          | no => rw [q3] at p; exact p.elim
          | ex y L2 S2 => rw [q3] at p; exact p.elim
          | ok fl L2 S2 =>
            rw [q3] at p
            by_cases hn : noX (L2.set i .un) = true
            · simp only [hn, if_true] at p
              intro σ2 H2 g2 f3 e3
              have f4 : Fr (kx X) B gB (σ2.set i none) (L2.set i .un) H2 g2 S2 := Fr.kc (k := ⟨X.K, X.mg, some (a, oe)⟩) (k' := kx X) rfl rfl (f3.lay (i := i) (ov := none) (lv := .un) nofun nofun nofun) fun j y => noX_no hn
              have e := p _ _ _ f4 (e'.trans e3)
              cases fl with
              | nx => exact e
              | bk => exact e
              | ct => exact e
              | rt dd => exact fun v r => e v (Rep.kc (k := ⟨X.K, X.mg, some (a, oe)⟩) (k' := kx X) rfl rfl _ _ r)
            · simp only [hn, if_false] at p
              exact p.elim
        · subst hbb
          simp only [q2] at p
          exact p _ d σ' H' g' f' e' xr
end
end Rf

set_option Elab.async false
set_option linter.all false
set_option maxRecDepth 100000
set_option maxHeartbeats 4000000
/-! Rf, part 26: own exception classes: what the written part says of them; their fields read, isinstance. -/
namespace Rf
open PySem L2 TL

def okO (a b : Option (Option Value)) : Bool := decide (a = b)
theorem okO_ok {a b : Option (Option Value)} (h : okO a b = true) : a = b := of_decide_eq_true h
theorem b2 {a b : Bool} (h : (a && b) = true) : a = true ∧ b = true := Bool.and_eq_true_iff.mp h
/-- a class of exceptions with dicts -/
def excB (K : PySem.W.Frag) (C : Addr) : Bool :=
  okO (PySem.W.findIn K (.ref C) "__getattribute__") (some (some (.builtin "BaseException.__getattribute__"))) && (okO (PySem.W.findIn K (.ref C) "__getattr__") (some none) &&
  (decide (PySem.W.subIn K (.ref C) (.type "BaseException") = some true) && (PySem.W.hasDictIn K C &&
  (okO (PySem.W.findIn K (.ref C) "__class__") (some (some (.builtin "object.__class__"))) && (okO (PySem.W.specialIn K (.builtin "object.__class__") "__get__") (some (some (.builtin "getset_descriptor.__get__"))) &&
  (decide (PySem.W.takesIn K (.builtin "object.__class__") = some true) && (decide (PySem.W.mroIn K C (.type "object") = some true) && decide (PySem.W.typeIn K (.ref C) = some (.type "type")))))))))
structure ExcAt (K : PySem.W.Frag) (C : Addr) : Prop extends L2.ExcC K C where
  xf : L2.XfC K C
  ty : PySem.W.typeIn K (.ref C) = some (.type "type")
theorem excB_ok {K : PySem.W.Frag} {C : Addr} (h : excB K C = true) : ExcAt K C := by
  obtain ⟨h1, h⟩ := b2 h
  obtain ⟨h2, h⟩ := b2 h
  obtain ⟨h3, h⟩ := b2 h
  obtain ⟨h4, h⟩ := b2 h
  obtain ⟨h5, h⟩ := b2 h
  obtain ⟨h6, h⟩ := b2 h
  obtain ⟨h7, h⟩ := b2 h
  obtain ⟨h8, h9⟩ := b2 h
  exact { hg := okO_ok h1, hk := okO_ok h2, hs := of_decide_eq_true h3, hd := h4, ha := okO_ok h5, hn := okO_ok h6, ht := of_decide_eq_true h7, hm := of_decide_eq_true h8, xf := ⟨okO_ok h1, okO_ok h2, of_decide_eq_true h3, h4⟩, ty := of_decide_eq_true h9 }
def clsB (K : PySem.W.Frag) (c : Str) (fs : List Str) : Bool := okO (PySem.W.nsIn K mainGlobals c) (some (some (.ref (He.ga K c)))) && (excB K (He.ga K c) && fs.all fun f => okO (PySem.W.findIn K (.ref (He.ga K c)) f) (some none))
/-- the name c stands for such a class; its instances' own fields fs are read off them -/
def ClsAt (K : PySem.W.Frag) (mg : Str → Option Value) (c : Str) (fs : List Str) : Prop := mg c = some (.ref (He.ga K c)) ∧ ExcAt K (He.ga K c) ∧ ∀ f ∈ fs, PySem.W.findIn K (.ref (He.ga K c)) f = some none
theorem clsB_ok {K : PySem.W.Frag} {h : Heap} {mg : Str → Option Value} (X : K.In h) (G : h.Ns mainGlobals mg) {c : Str} {fs : List Str} (q : clsB K c fs = true) : ClsAt K mg c fs := by
  obtain ⟨h1, q⟩ := b2 q
  obtain ⟨h2, h3⟩ := b2 q
  exact ⟨PySem.W.mg_of X G (okO_ok h1), excB_ok h2, fun f hf => okO_ok (List.all_eq_true.mp h3 f hf)⟩

/-! ### the class's maker -/
/-- how the class object and its maker stand -/
def rsB (K : PySem.W.Frag) (C fI : Addr) : Bool := (match K.lookup C with
  | some ⟨.type "type", _, .cls cd, sl⟩ => (match cd.mro, sl.toList with
    | .ref C' :: bm, [_, _, _, _, some (.builtin n), _] => C' == C && (n == "ValueError.__new__" && (!cd.hasDel && (cd.hasDict && PySem.HandSPX.refsVE bm)))
    | _, _ => false)
  | _ => false) && (okO (PySem.W.findIn K (.ref C) "__setattr__") (some (some (.builtin "object.__setattr__"))) && (okO (PySem.W.findIn K (.ref C) "__init__") (some (some (.ref fI))) && (decide (PySem.W.typeIn K (.ref fI) = some (.type "function")) && PySem.W.keepIn K (.ref C))))
structure RsAt (K : PySem.W.Frag) (C fI : Addr) : Prop where
  cls : ∃ nm q N bs bm sn sub ab col dd k0 k1 k2 k3 k5, K.lookup C = some (excClassObj nm q C N bs bm true sn sub ab col dd k0 k1 k2 k3 k5 "ValueError.__new__") ∧ PySem.HandSPX.refsVE bm = true
  sa : PySem.W.findIn K (.ref C) "__setattr__" = some (some (.builtin "object.__setattr__"))
  iC : PySem.W.findIn K (.ref C) "__init__" = some (some (.ref fI))
  tC : PySem.W.typeIn K (.ref fI) = some (.type "function")
  kC : PySem.W.keepIn K (.ref C) = true
theorem rsB_ok {K : PySem.W.Frag} {C fI : Addr} (h : rsB K C fI = true) : RsAt K C fI := by
  obtain ⟨h1, h⟩ := b2 h
  obtain ⟨h2, h⟩ := b2 h
  obtain ⟨h3, h⟩ := b2 h
  obtain ⟨h4, h5⟩ := b2 h
  refine ⟨?_, okO_ok h2, okO_ok h3, of_decide_eq_true h4, h5⟩
  split at h1
  · rename_i dd cd sl ho
    split at h1
    · rename_i C' bm k0 k1 k2 k3 n k5 hm hs
      obtain ⟨e1, h1⟩ := b2 h1
      obtain ⟨e2, h1⟩ := b2 h1
      obtain ⟨e3, h1⟩ := b2 h1
      obtain ⟨e4, e5⟩ := b2 h1
      have e1 := beq_iff_eq.mp e1
      have e2 := beq_iff_eq.mp e2
      subst e1 e2
      obtain ⟨nm, bs, mro, ns, qn, hd, sn, sub, ab, col, del⟩ := cd
      dsimp only at hm e3 e4
      subst hm e4
      have e3 : del = false := by simpa using e3
      subst e3
      have hsl : sl = #[k0, k1, k2, k3, some (.builtin "ValueError.__new__"), k5] := by
        obtain ⟨l⟩ := sl
        simp only at hs
        rw [hs]
      subst hsl
      exact ⟨nm, qn, ns, bs, bm, sn, sub, ab, col, dd, k0, k1, k2, k3, k5, ho, e5⟩
    · cases h1
  · cases h1
end Rf

set_option Elab.async false
set_option linter.all false
set_option maxRecDepth 100000
set_option maxHeartbeats 4000000
/-! the makers of own exceptions -/
namespace Rf
open PySem PySem.W PySem.Calls PyProof.Rows PySem.HandSPX
def xiA (f : Str) (p1 p2 : Pos) : Arguments := { posonlyargs := [], args := [{ arg := "self", annotation := none, pos := p1 }, { arg := f, annotation := none, pos := p2 }], vararg := none, kwonlyargs := [], kw_defaults := [], kwarg := none, defaults := [] }
def xiB (f : Str) (q1 q2 q3 q4 : Pos) : List Stmt := [.Assign [.Attribute (.Name "self" q1) f q2] (.Name f q3) q4]
def xiS (f : Str) : Scope := { kind := .function, names := [(PySem.Str.ofString "self", .local), (f, .local)], isGenerator := false, isCoroutine := false, more := [] }
theorem xone_size (v : Value) : [v].length ≤ sizeLine := by
  rw [sizeLine_eq]
  exact (by decide : 1 ≤ 16777216)
theorem xldC {M : Model} {s : Shared} {name : Str} {scope : Scope} {L a : Addr} {cd : Value} {m : Str → Option Value} {x : Str} {pos : Pos} {v : Value} {Q : Value → Shared → Prop} {A : Around} {E : Value → Shared → Prop}
    (hn : s.heap.Ns L m) (hv : m x = some v) (h : Q v s) (hk : scope.kind = .function := by rfl) (hl : (envOfC name scope L a cd).kindOf x = some .local := by rfl) (hd : (x == ("__debug__" : Str)) = false := by decide) :
    wpAny M A (eval (.Name x pos) (envOfC name scope L a cd)) Q E s := wpAny_Name (wpAny_loadName_local hk hl hn hv h) hd
/-- what the maker leaves of a fresh exception at x -/
structure XInit (f : Str) (h h' : Heap) (x C dx t1 : Addr) (v : Value) : Prop where
  keep : ∀ b o, b ≠ x → h.get? b = some o → h'.get? b = some o
  obj : h'.get? x = some { cls := .ref C, dict := some dx, data := .fields #[.ref t1, .none, .none, .none, .bool false, .none] }
  dbig : h.objs.size ≤ dx
  dne : dx ≠ x
  ns : h'.Ns1 dx (fun y => if y = f then some v else none)
section
variable {prog : Program} {w : World} {A : Around} {R : Result → Shared → Prop} {s : Shared} {K : Frag} {mg : Str → Option Value} {C fI : Addr} {fd : FuncData} {p1 p2 q1 q2 q3 q4 : Pos}
theorem mi_BadText (T : RsAt K C fI) (noN : findIn K (.ref C) "place" = some none) (F : L2.FunD K "__init__" "BadText.__init__" (xiA "place" p1 p2) (xiB "place" q1 q2 q3 q4) (xiS "place") [] [] fI fd) {x t0 : Addr} {v : Value}
    (X : K.In s.heap) (hlim : s.heap.NoLimit) (hx : s.heap.get? x = some (excO C t0)) (hnx : K.lookup x = none) (hroom : A.depth < recursionLimit)
    (hq : ∀ h' tk dx, XInit "place" s.heap h' x C dx t0 v → R (.ok (.ret .none)) { s with heap := h', toks := tk }) :
    codeAny (model prog w) A (.call (.ref fI) ⟨[.ref x, v], []⟩) R s := by
  have hb := F.bindsN (ps := ["self", "place"]) (fun _ _ _ _ _ _ us hl => match us, hl with | [_, _], _ => rfl) s [.ref x, v] X rfl
  obtain ⟨oc, od, dV, kV, doc, pm, an, cdv, ct, osl, rfl, ho, hcd, _, _⟩ := F.ex
  obtain ⟨nm, q, N, bs, bm, sn, sub, ab, col, dd, k0, k1, k2, k3, k5, hC, hbm⟩ := T.cls
  have hcl : clsIn K C = some { name := nm, bases := bs, mro := .ref C :: bm, ns := N, qualname := q, hasDict := true, slotNames := sn, subclasses := sub, abstract := ab, collection := col, hasDel := false } := by unfold clsIn; rw [hC] <;> rfl
  refine Att.call_fn (binds := [("self", .ref x), ("place", v)]) X hlim ho hcd hroom hb (by first | rfl | decide | with_unfolding_all rfl) (fun s₁ IC => ?_) rfl rfl rfl
  obtain ⟨h₁, tk₁, rfl⟩ := IC.toInCall.same
  have k : ∀ b o, s.heap.get? b = some o → h₁.get? b = some o := IC.toInCall.keep
  have hn := IC.toInCall.ns
  have X₁ : K.In h₁ := X.keeps k
  have hx₁ := k _ _ hx
  show wpAny _ _ (execs _ _) _ _ _
  refine wpAny_execs_cons (plainObj_wpAny_Assign_Attribute ?_)
  refine xldC (v := v) hn (by first | rfl | with_unfolding_all rfl | kernel_rfl) (xldC (v := .ref x) hn (by first | rfl | with_unfolding_all rfl | kernel_rfl) ?_)
  refine set_plain X₁ (ox := excO C t0) (od := none) ⟨hx₁, rfl, rfl, trivial⟩ T.sa ?_
  refine exc_osa X₁ hx₁ hcl (show refsVE (.ref C :: bm) = true from hbm) rfl noN (fun h₃ tk₃ dx k₃ dn dne hx₃ hn₃ => ?_)
  show wpAny _ _ (execs _ _) _ _ _
  have z : s.heap.objs.size < h₁.objs.size := hn.lt
  exact wpAny_execs_nil (hq h₃ tk₃ dx ⟨fun b o hb e => k₃ b o hb (k b o e), hx₃, Nat.le_of_lt (Nat.lt_of_lt_of_le z dn), dne, hn₃⟩)
theorem mk_BadText (T : RsAt K C fI) (noN : findIn K (.ref C) "place" = some none) (F : L2.FunD K "__init__" "BadText.__init__" (xiA "place" p1 p2) (xiB "place" q1 q2 q3 q4) (xiS "place") [] [] fI fd) {v : Value} (X : K.In s.heap) (hlim : s.heap.NoLimit) (hroom : A.depth + 1 < recursionLimit)
    (hq : ∀ h' tk e d, XMade "place" s.heap h' e C d v → R (.ok (.ret (.ref e))) { s with heap := h', toks := tk }) :
    codeAny (model prog w) A (.call (.ref C) ⟨[v], []⟩) R s := by
  obtain ⟨nm, q, N, bs, bm, sn, sub, ab, col, dd, k0, k1, k2, k3, k5, hC, hbm⟩ := T.cls
  obtain ⟨hp, g, dr, tk, os⟩ := s
  have k : ∀ b o, hp.get? b = some o → ((hp.push (kdv_tup [v])).push (excO C hp.objs.size)).get? b = some o := fun b o e => Heap.get?_push_of_some _ (Heap.get?_push_of_some _ e)
  have hget : ((hp.push (kdv_tup [v])).push (excO C hp.objs.size)).get? (hp.objs.size + 1) = some (excO C hp.objs.size) := by heap_get
  have hnx : K.lookup (hp.objs.size + 1) = none := by
    cases e : K.lookup (hp.objs.size + 1) with
    | none => rfl
    | some o =>
      have z : hp.get? (hp.objs.size + 1) = some o := X _ _ e
      exact absurd (Nat.lt_of_succ_lt (Heap.lt_size z)) (Nat.lt_irrefl _)
  refine call_own PySem.F.excBase_ValueError (fun X => refsVE_contains X bm hbm) (X _ _ hC) (looks_findIn X T.iC) (fun self => bind_fn X self T.tC) (xone_size v) ?_
  refine mi_BadText (s := ⟨(hp.push (kdv_tup [v])).push (excO C hp.objs.size), g, dr, tk, os⟩) T noN F (X.keeps k) (hlim.keeps k) hget hnx ?_ fun h' tk' dx ⟨k', hx, dn, dne, hns⟩ => ?_
  · show A.depth + 1 < recursionLimit
    exact hroom
  · have old : ∀ b o, hp.get? b = some o → h'.get? b = some o := fun b o e => k' b o (Nat.ne_of_lt (Nat.lt_succ_of_lt (Heap.lt_size e))) (k b o e)
    have z : hp.objs.size + 1 + 1 ≤ dx := by
      first
        | (simpa only [Heap.size_push] using dn)
        | exact dn
        | (have q := dn; rw [Heap.size_push, Heap.size_push] at q; exact q)
    exact ⟨rfl, hq h' tk' (hp.objs.size + 1) dx ⟨old, Nat.le_succ _, ⟨_, _, hx, rfl, rfl, rfl, rfl⟩, Nat.le_trans (Nat.le_trans (Nat.le_succ _) (Nat.le_succ _)) z, dne, hns⟩⟩
theorem rs_BadText (c : ClsAt K mg "BadText" ["place"]) (T : RsAt K (He.ga K "BadText") fI) (F : L2.FunD K "__init__" "BadText.__init__" (xiA "place" p1 p2) (xiB "place" q1 q2 q3 q4) (xiS "place") [] [] fI fd) : RaiseIn prog w K mg "BadText" "place" :=
  ⟨_, c.1, T.kC, c.2.1.hs, c.2.1.ty, fun X hl hr hq => mk_BadText T (c.2.2 _ (List.mem_singleton.mpr rfl)) F X hl hr hq⟩
theorem mi_BadProgram (T : RsAt K C fI) (noN : findIn K (.ref C) "error" = some none) (F : L2.FunD K "__init__" "BadProgram.__init__" (xiA "error" p1 p2) (xiB "error" q1 q2 q3 q4) (xiS "error") [] [] fI fd) {x t0 : Addr} {v : Value}
    (X : K.In s.heap) (hlim : s.heap.NoLimit) (hx : s.heap.get? x = some (excO C t0)) (hnx : K.lookup x = none) (hroom : A.depth < recursionLimit)
    (hq : ∀ h' tk dx, XInit "error" s.heap h' x C dx t0 v → R (.ok (.ret .none)) { s with heap := h', toks := tk }) :
    codeAny (model prog w) A (.call (.ref fI) ⟨[.ref x, v], []⟩) R s := by
  have hb := F.bindsN (ps := ["self", "error"]) (fun _ _ _ _ _ _ us hl => match us, hl with | [_, _], _ => rfl) s [.ref x, v] X rfl
  obtain ⟨oc, od, dV, kV, doc, pm, an, cdv, ct, osl, rfl, ho, hcd, _, _⟩ := F.ex
  obtain ⟨nm, q, N, bs, bm, sn, sub, ab, col, dd, k0, k1, k2, k3, k5, hC, hbm⟩ := T.cls
  have hcl : clsIn K C = some { name := nm, bases := bs, mro := .ref C :: bm, ns := N, qualname := q, hasDict := true, slotNames := sn, subclasses := sub, abstract := ab, collection := col, hasDel := false } := by unfold clsIn; rw [hC] <;> rfl
  refine Att.call_fn (binds := [("self", .ref x), ("error", v)]) X hlim ho hcd hroom hb (by first | rfl | decide | with_unfolding_all rfl) (fun s₁ IC => ?_) rfl rfl rfl
  obtain ⟨h₁, tk₁, rfl⟩ := IC.toInCall.same
  have k : ∀ b o, s.heap.get? b = some o → h₁.get? b = some o := IC.toInCall.keep
  have hn := IC.toInCall.ns
  have X₁ : K.In h₁ := X.keeps k
  have hx₁ := k _ _ hx
  show wpAny _ _ (execs _ _) _ _ _
  refine wpAny_execs_cons (plainObj_wpAny_Assign_Attribute ?_)
  refine xldC (v := v) hn (by first | rfl | with_unfolding_all rfl | kernel_rfl) (xldC (v := .ref x) hn (by first | rfl | with_unfolding_all rfl | kernel_rfl) ?_)
  refine set_plain X₁ (ox := excO C t0) (od := none) ⟨hx₁, rfl, rfl, trivial⟩ T.sa ?_
  refine exc_osa X₁ hx₁ hcl (show refsVE (.ref C :: bm) = true from hbm) rfl noN (fun h₃ tk₃ dx k₃ dn dne hx₃ hn₃ => ?_)
  show wpAny _ _ (execs _ _) _ _ _
  have z : s.heap.objs.size < h₁.objs.size := hn.lt
  exact wpAny_execs_nil (hq h₃ tk₃ dx ⟨fun b o hb e => k₃ b o hb (k b o e), hx₃, Nat.le_of_lt (Nat.lt_of_lt_of_le z dn), dne, hn₃⟩)
theorem mk_BadProgram (T : RsAt K C fI) (noN : findIn K (.ref C) "error" = some none) (F : L2.FunD K "__init__" "BadProgram.__init__" (xiA "error" p1 p2) (xiB "error" q1 q2 q3 q4) (xiS "error") [] [] fI fd) {v : Value} (X : K.In s.heap) (hlim : s.heap.NoLimit) (hroom : A.depth + 1 < recursionLimit)
    (hq : ∀ h' tk e d, XMade "error" s.heap h' e C d v → R (.ok (.ret (.ref e))) { s with heap := h', toks := tk }) :
    codeAny (model prog w) A (.call (.ref C) ⟨[v], []⟩) R s := by
  obtain ⟨nm, q, N, bs, bm, sn, sub, ab, col, dd, k0, k1, k2, k3, k5, hC, hbm⟩ := T.cls
  obtain ⟨hp, g, dr, tk, os⟩ := s
  have k : ∀ b o, hp.get? b = some o → ((hp.push (kdv_tup [v])).push (excO C hp.objs.size)).get? b = some o := fun b o e => Heap.get?_push_of_some _ (Heap.get?_push_of_some _ e)
  have hget : ((hp.push (kdv_tup [v])).push (excO C hp.objs.size)).get? (hp.objs.size + 1) = some (excO C hp.objs.size) := by heap_get
  have hnx : K.lookup (hp.objs.size + 1) = none := by
    cases e : K.lookup (hp.objs.size + 1) with
    | none => rfl
    | some o =>
      have z : hp.get? (hp.objs.size + 1) = some o := X _ _ e
      exact absurd (Nat.lt_of_succ_lt (Heap.lt_size z)) (Nat.lt_irrefl _)
  refine call_own PySem.F.excBase_ValueError (fun X => refsVE_contains X bm hbm) (X _ _ hC) (looks_findIn X T.iC) (fun self => bind_fn X self T.tC) (xone_size v) ?_
  refine mi_BadProgram (s := ⟨(hp.push (kdv_tup [v])).push (excO C hp.objs.size), g, dr, tk, os⟩) T noN F (X.keeps k) (hlim.keeps k) hget hnx ?_ fun h' tk' dx ⟨k', hx, dn, dne, hns⟩ => ?_
  · show A.depth + 1 < recursionLimit
    exact hroom
  · have old : ∀ b o, hp.get? b = some o → h'.get? b = some o := fun b o e => k' b o (Nat.ne_of_lt (Nat.lt_succ_of_lt (Heap.lt_size e))) (k b o e)
    have z : hp.objs.size + 1 + 1 ≤ dx := by
      first
        | (simpa only [Heap.size_push] using dn)
        | exact dn
        | (have q := dn; rw [Heap.size_push, Heap.size_push] at q; exact q)
    exact ⟨rfl, hq h' tk' (hp.objs.size + 1) dx ⟨old, Nat.le_succ _, ⟨_, _, hx, rfl, rfl, rfl, rfl⟩, Nat.le_trans (Nat.le_trans (Nat.le_succ _) (Nat.le_succ _)) z, dne, hns⟩⟩
theorem rs_BadProgram (c : ClsAt K mg "BadProgram" ["error"]) (T : RsAt K (He.ga K "BadProgram") fI) (F : L2.FunD K "__init__" "BadProgram.__init__" (xiA "error" p1 p2) (xiB "error" q1 q2 q3 q4) (xiS "error") [] [] fI fd) : RaiseIn prog w K mg "BadProgram" "error" :=
  ⟨_, c.1, T.kC, c.2.1.hs, c.2.1.ty, fun X hl hr hq => mk_BadProgram T (c.2.2 _ (List.mem_singleton.mpr rfl)) F X hl hr hq⟩
theorem mi_Clash (T : RsAt K C fI) (noN : findIn K (.ref C) "steps" = some none) (F : L2.FunD K "__init__" "Clash.__init__" (xiA "steps" p1 p2) (xiB "steps" q1 q2 q3 q4) (xiS "steps") [] [] fI fd) {x t0 : Addr} {v : Value}
    (X : K.In s.heap) (hlim : s.heap.NoLimit) (hx : s.heap.get? x = some (excO C t0)) (hnx : K.lookup x = none) (hroom : A.depth < recursionLimit)
    (hq : ∀ h' tk dx, XInit "steps" s.heap h' x C dx t0 v → R (.ok (.ret .none)) { s with heap := h', toks := tk }) :
    codeAny (model prog w) A (.call (.ref fI) ⟨[.ref x, v], []⟩) R s := by
  have hb := F.bindsN (ps := ["self", "steps"]) (fun _ _ _ _ _ _ us hl => match us, hl with | [_, _], _ => rfl) s [.ref x, v] X rfl
  obtain ⟨oc, od, dV, kV, doc, pm, an, cdv, ct, osl, rfl, ho, hcd, _, _⟩ := F.ex
  obtain ⟨nm, q, N, bs, bm, sn, sub, ab, col, dd, k0, k1, k2, k3, k5, hC, hbm⟩ := T.cls
  have hcl : clsIn K C = some { name := nm, bases := bs, mro := .ref C :: bm, ns := N, qualname := q, hasDict := true, slotNames := sn, subclasses := sub, abstract := ab, collection := col, hasDel := false } := by unfold clsIn; rw [hC] <;> rfl
  refine Att.call_fn (binds := [("self", .ref x), ("steps", v)]) X hlim ho hcd hroom hb (by first | rfl | decide | with_unfolding_all rfl) (fun s₁ IC => ?_) rfl rfl rfl
  obtain ⟨h₁, tk₁, rfl⟩ := IC.toInCall.same
  have k : ∀ b o, s.heap.get? b = some o → h₁.get? b = some o := IC.toInCall.keep
  have hn := IC.toInCall.ns
  have X₁ : K.In h₁ := X.keeps k
  have hx₁ := k _ _ hx
  show wpAny _ _ (execs _ _) _ _ _
  refine wpAny_execs_cons (plainObj_wpAny_Assign_Attribute ?_)
  refine xldC (v := v) hn (by first | rfl | with_unfolding_all rfl | kernel_rfl) (xldC (v := .ref x) hn (by first | rfl | with_unfolding_all rfl | kernel_rfl) ?_)
  refine set_plain X₁ (ox := excO C t0) (od := none) ⟨hx₁, rfl, rfl, trivial⟩ T.sa ?_
  refine exc_osa X₁ hx₁ hcl (show refsVE (.ref C :: bm) = true from hbm) rfl noN (fun h₃ tk₃ dx k₃ dn dne hx₃ hn₃ => ?_)
  show wpAny _ _ (execs _ _) _ _ _
  have z : s.heap.objs.size < h₁.objs.size := hn.lt
  exact wpAny_execs_nil (hq h₃ tk₃ dx ⟨fun b o hb e => k₃ b o hb (k b o e), hx₃, Nat.le_of_lt (Nat.lt_of_lt_of_le z dn), dne, hn₃⟩)
theorem mk_Clash (T : RsAt K C fI) (noN : findIn K (.ref C) "steps" = some none) (F : L2.FunD K "__init__" "Clash.__init__" (xiA "steps" p1 p2) (xiB "steps" q1 q2 q3 q4) (xiS "steps") [] [] fI fd) {v : Value} (X : K.In s.heap) (hlim : s.heap.NoLimit) (hroom : A.depth + 1 < recursionLimit)
    (hq : ∀ h' tk e d, XMade "steps" s.heap h' e C d v → R (.ok (.ret (.ref e))) { s with heap := h', toks := tk }) :
    codeAny (model prog w) A (.call (.ref C) ⟨[v], []⟩) R s := by
  obtain ⟨nm, q, N, bs, bm, sn, sub, ab, col, dd, k0, k1, k2, k3, k5, hC, hbm⟩ := T.cls
  obtain ⟨hp, g, dr, tk, os⟩ := s
  have k : ∀ b o, hp.get? b = some o → ((hp.push (kdv_tup [v])).push (excO C hp.objs.size)).get? b = some o := fun b o e => Heap.get?_push_of_some _ (Heap.get?_push_of_some _ e)
  have hget : ((hp.push (kdv_tup [v])).push (excO C hp.objs.size)).get? (hp.objs.size + 1) = some (excO C hp.objs.size) := by heap_get
  have hnx : K.lookup (hp.objs.size + 1) = none := by
    cases e : K.lookup (hp.objs.size + 1) with
    | none => rfl
    | some o =>
      have z : hp.get? (hp.objs.size + 1) = some o := X _ _ e
      exact absurd (Nat.lt_of_succ_lt (Heap.lt_size z)) (Nat.lt_irrefl _)
  refine call_own PySem.F.excBase_ValueError (fun X => refsVE_contains X bm hbm) (X _ _ hC) (looks_findIn X T.iC) (fun self => bind_fn X self T.tC) (xone_size v) ?_
  refine mi_Clash (s := ⟨(hp.push (kdv_tup [v])).push (excO C hp.objs.size), g, dr, tk, os⟩) T noN F (X.keeps k) (hlim.keeps k) hget hnx ?_ fun h' tk' dx ⟨k', hx, dn, dne, hns⟩ => ?_
  · show A.depth + 1 < recursionLimit
    exact hroom
  · have old : ∀ b o, hp.get? b = some o → h'.get? b = some o := fun b o e => k' b o (Nat.ne_of_lt (Nat.lt_succ_of_lt (Heap.lt_size e))) (k b o e)
    have z : hp.objs.size + 1 + 1 ≤ dx := by
      first
        | (simpa only [Heap.size_push] using dn)
        | exact dn
        | (have q := dn; rw [Heap.size_push, Heap.size_push] at q; exact q)
    exact ⟨rfl, hq h' tk' (hp.objs.size + 1) dx ⟨old, Nat.le_succ _, ⟨_, _, hx, rfl, rfl, rfl, rfl⟩, Nat.le_trans (Nat.le_trans (Nat.le_succ _) (Nat.le_succ _)) z, dne, hns⟩⟩
theorem rs_Clash (c : ClsAt K mg "Clash" ["steps"]) (T : RsAt K (He.ga K "Clash") fI) (F : L2.FunD K "__init__" "Clash.__init__" (xiA "steps" p1 p2) (xiB "steps" q1 q2 q3 q4) (xiS "steps") [] [] fI fd) : RaiseIn prog w K mg "Clash" "steps" :=
  ⟨_, c.1, T.kC, c.2.1.hs, c.2.1.ty, fun X hl hr hq => mk_Clash T (c.2.2 _ (List.mem_singleton.mpr rfl)) F X hl hr hq⟩
theorem mi_Stopped (T : RsAt K C fI) (noN : findIn K (.ref C) "why" = some none) (F : L2.FunD K "__init__" "Stopped.__init__" (xiA "why" p1 p2) (xiB "why" q1 q2 q3 q4) (xiS "why") [] [] fI fd) {x t0 : Addr} {v : Value}
    (X : K.In s.heap) (hlim : s.heap.NoLimit) (hx : s.heap.get? x = some (excO C t0)) (hnx : K.lookup x = none) (hroom : A.depth < recursionLimit)
    (hq : ∀ h' tk dx, XInit "why" s.heap h' x C dx t0 v → R (.ok (.ret .none)) { s with heap := h', toks := tk }) :
    codeAny (model prog w) A (.call (.ref fI) ⟨[.ref x, v], []⟩) R s := by
  have hb := F.bindsN (ps := ["self", "why"]) (fun _ _ _ _ _ _ us hl => match us, hl with | [_, _], _ => rfl) s [.ref x, v] X rfl
  obtain ⟨oc, od, dV, kV, doc, pm, an, cdv, ct, osl, rfl, ho, hcd, _, _⟩ := F.ex
  obtain ⟨nm, q, N, bs, bm, sn, sub, ab, col, dd, k0, k1, k2, k3, k5, hC, hbm⟩ := T.cls
  have hcl : clsIn K C = some { name := nm, bases := bs, mro := .ref C :: bm, ns := N, qualname := q, hasDict := true, slotNames := sn, subclasses := sub, abstract := ab, collection := col, hasDel := false } := by unfold clsIn; rw [hC] <;> rfl
  refine Att.call_fn (binds := [("self", .ref x), ("why", v)]) X hlim ho hcd hroom hb (by first | rfl | decide | with_unfolding_all rfl) (fun s₁ IC => ?_) rfl rfl rfl
  obtain ⟨h₁, tk₁, rfl⟩ := IC.toInCall.same
  have k : ∀ b o, s.heap.get? b = some o → h₁.get? b = some o := IC.toInCall.keep
  have hn := IC.toInCall.ns
  have X₁ : K.In h₁ := X.keeps k
  have hx₁ := k _ _ hx
  show wpAny _ _ (execs _ _) _ _ _
  refine wpAny_execs_cons (plainObj_wpAny_Assign_Attribute ?_)
  refine xldC (v := v) hn (by first | rfl | with_unfolding_all rfl | kernel_rfl) (xldC (v := .ref x) hn (by first | rfl | with_unfolding_all rfl | kernel_rfl) ?_)
  refine set_plain X₁ (ox := excO C t0) (od := none) ⟨hx₁, rfl, rfl, trivial⟩ T.sa ?_
  refine exc_osa X₁ hx₁ hcl (show refsVE (.ref C :: bm) = true from hbm) rfl noN (fun h₃ tk₃ dx k₃ dn dne hx₃ hn₃ => ?_)
  show wpAny _ _ (execs _ _) _ _ _
  have z : s.heap.objs.size < h₁.objs.size := hn.lt
  exact wpAny_execs_nil (hq h₃ tk₃ dx ⟨fun b o hb e => k₃ b o hb (k b o e), hx₃, Nat.le_of_lt (Nat.lt_of_lt_of_le z dn), dne, hn₃⟩)
theorem mk_Stopped (T : RsAt K C fI) (noN : findIn K (.ref C) "why" = some none) (F : L2.FunD K "__init__" "Stopped.__init__" (xiA "why" p1 p2) (xiB "why" q1 q2 q3 q4) (xiS "why") [] [] fI fd) {v : Value} (X : K.In s.heap) (hlim : s.heap.NoLimit) (hroom : A.depth + 1 < recursionLimit)
    (hq : ∀ h' tk e d, XMade "why" s.heap h' e C d v → R (.ok (.ret (.ref e))) { s with heap := h', toks := tk }) :
    codeAny (model prog w) A (.call (.ref C) ⟨[v], []⟩) R s := by
  obtain ⟨nm, q, N, bs, bm, sn, sub, ab, col, dd, k0, k1, k2, k3, k5, hC, hbm⟩ := T.cls
  obtain ⟨hp, g, dr, tk, os⟩ := s
  have k : ∀ b o, hp.get? b = some o → ((hp.push (kdv_tup [v])).push (excO C hp.objs.size)).get? b = some o := fun b o e => Heap.get?_push_of_some _ (Heap.get?_push_of_some _ e)
  have hget : ((hp.push (kdv_tup [v])).push (excO C hp.objs.size)).get? (hp.objs.size + 1) = some (excO C hp.objs.size) := by heap_get
  have hnx : K.lookup (hp.objs.size + 1) = none := by
    cases e : K.lookup (hp.objs.size + 1) with
    | none => rfl
    | some o =>
      have z : hp.get? (hp.objs.size + 1) = some o := X _ _ e
      exact absurd (Nat.lt_of_succ_lt (Heap.lt_size z)) (Nat.lt_irrefl _)
  refine call_own PySem.F.excBase_ValueError (fun X => refsVE_contains X bm hbm) (X _ _ hC) (looks_findIn X T.iC) (fun self => bind_fn X self T.tC) (xone_size v) ?_
  refine mi_Stopped (s := ⟨(hp.push (kdv_tup [v])).push (excO C hp.objs.size), g, dr, tk, os⟩) T noN F (X.keeps k) (hlim.keeps k) hget hnx ?_ fun h' tk' dx ⟨k', hx, dn, dne, hns⟩ => ?_
  · show A.depth + 1 < recursionLimit
    exact hroom
  · have old : ∀ b o, hp.get? b = some o → h'.get? b = some o := fun b o e => k' b o (Nat.ne_of_lt (Nat.lt_succ_of_lt (Heap.lt_size e))) (k b o e)
    have z : hp.objs.size + 1 + 1 ≤ dx := by
      first
        | (simpa only [Heap.size_push] using dn)
        | exact dn
        | (have q := dn; rw [Heap.size_push, Heap.size_push] at q; exact q)
    exact ⟨rfl, hq h' tk' (hp.objs.size + 1) dx ⟨old, Nat.le_succ _, ⟨_, _, hx, rfl, rfl, rfl, rfl⟩, Nat.le_trans (Nat.le_trans (Nat.le_succ _) (Nat.le_succ _)) z, dne, hns⟩⟩
theorem rs_Stopped (c : ClsAt K mg "Stopped" ["why"]) (T : RsAt K (He.ga K "Stopped") fI) (F : L2.FunD K "__init__" "Stopped.__init__" (xiA "why" p1 p2) (xiB "why" q1 q2 q3 q4) (xiS "why") [] [] fI fd) : RaiseIn prog w K mg "Stopped" "why" :=
  ⟨_, c.1, T.kC, c.2.1.hs, c.2.1.ty, fun X hl hr hq => mk_Stopped T (c.2.2 _ (List.mem_singleton.mpr rfl)) F X hl hr hq⟩
end
end Rf

set_option Elab.async false
set_option linter.all false
set_option maxRecDepth 100000
set_option maxHeartbeats 4000000
/-! Rf, part 27: in an except suite: the error's field, isinstance of the error. -/
namespace PySem.W
open PySem PySem.Spec PySem.Calls PyProof.Rows
section
variable {prog : Program} {w : World} {A : Around} {E : Value → Shared → Prop} {s : Shared} {K : Frag} {x D : Addr} {ox : Obj} {od : Option Obj}
theorem xfind {C : Addr} {name : Str} {a g : Value} (hc : hasDictIn K C = true) (ha : findIn K (.ref C) name = some (some a)) (hg : specialIn K a "__get__" = some (some g)) (ht : takesIn K a = some true) : findObj K C od name = some (.bind g a) := by
  obtain ⟨cd, hcd, _⟩ := any_some hc
  unfold findObj
  rw [hcd, Option.bind_some, ha, Option.bind_some]; simp [hg, ht]
theorem xclass {Q : Option Value → Shared → Prop} (C : L2.ExcC K D) (X : K.In s.heap) (I : InstAt s.heap x ox D od) (h : Q (some (.ref D)) { s with toks := s.toks + 1 }) : wpAny (model prog w) A (getAttr? (.ref x) "__class__") Q E s := by
  have fo : findObj K D od "__class__" = some (.bind (.builtin "getset_descriptor.__get__") (.builtin "object.__class__")) := xfind C.hd C.ha C.hn C.ht
  obtain ⟨hp, gn, dr, tk, os⟩ := s
  have l0 := I.type (M := model prog w)
  have l1 := looks_findIn (M := model prog w) X C.hg
  have l2 := looks_findIn (M := model prog w) X C.hk
  have l3 := looks_find (M := model prog w) X I fo
  have sb : Looks (model prog w) hp (isInstance (.ref x) (.type "BaseException")) true := l0.andThen (looks_subIn X C.hs)
  have n0 : (false && onTheHeap (Value.builtin "BaseException.__getattribute__")) = false := rfl
  have n1 : (onTheHeap (Value.ref D) && Value.builtin "BaseException.__getattribute__" == Value.builtin "object.__getattribute__") = false := by
    rw [show (Value.builtin "BaseException.__getattribute__" == Value.builtin "object.__getattribute__") = false by decide +kernel]; rfl
  unfold getAttr? getAttrBy? getAttrBy; refine wpAny_bind (wpAny_mkText (wpAny_bind (wpAny_attempt (wpAny_holding (wpAny_bind (l0.at (wpAny_bind (l1.at ?_))))))))
  show wpAny _ _ (if (onTheHeap (Value.ref D) && Value.builtin "BaseException.__getattribute__" == Value.builtin "object.__getattribute__") = true then _ else _) _ _ _
  rw [n1, if_neg Bool.false_ne_true]; unfold getAttrByItsOwn hookBefore
  refine wpAny_bind ?_; rw [if_pos (show onTheHeap (Value.ref D) = true from rfl)]
  refine l2.at ?_; refine wpAny_bind (wpAny_attempt (wpAny_holding ?_)); unfold callGetattribute
  rw [n0, if_neg Bool.false_ne_true]; unfold boundAndCalled; rw [PySem.F.excAttr_ValueError.ga.bind (.ref x)]
  refine wpAny_bind (wpAny_pure ?_); show wpAny _ _ (call (.builtin "BaseException.__getattribute__") [.ref x, .str "__class__" tk]) _ _ _
  refine wpAny_call (codeAny_call_builtin PySem.F.excAttr_ValueError.ga.plain PySem.F.entry_bexc_ga ?_)
  refine @check_slot (model prog w) _ _ ⟨hp, gn, dr, tk + 1, os⟩ "BaseException.__getattribute__" "BaseException" "__getattribute__" (.ref x) [.str "__class__" tk] [] _ (by decide +kernel) (by decide +kernel) sb (PySem.F.args_bexc_ga (.ref x) (.str "__class__" tk)) ?_
  unfold Builtin.«object.__getattribute__»; refine wpAny_bind (wpAny_of_eq (a := ((Value.ref x : Value), [Value.str "__class__" tk])) (by first | rfl | (simp only [slotArgs]; rfl)) ?_)
  refine wpAny_bind (wpAny_pure (wpAny_bind (l0.at (wpAny_bind (l3.at ?_)))))
  show wpAny _ _ (holding [Value.builtin "object.__class__"] (call (.builtin "getset_descriptor.__get__") [.builtin "object.__class__", .ref x, .ref D]) >>= ret) _ _ _
  refine wpAny_bind (wpAny_holding (wpAny_call (class_get (s := ⟨hp, gn, dr, tk + 1, os⟩) (ox := ox) (od := od) X I C.hm ?_)))
  refine wpAny_pure ?_; show wpAny _ _ (handedOut (.ref D)) _ _ _; rw [handedOut_of (v := .ref D) rfl]
  first
    | exact wpAny_pure (wpAny_pure h)
    | exact wpAny_pure h
    | exact wpAny_pure (wpAny_bind (wpAny_pure (wpAny_pure h)))
theorem xkit (C : L2.ExcC K D) : KitX K (.ref x) (.ref D) (fun h => InstAt h x ox D od) where
  ty := fun _ _ _ I => I.type
  it := fun _ _ X _ => by
    obtain ⟨cd, hcd, _⟩ := any_some C.hd
    unfold clsIn at hcd
    split at hcd
    · rename_i ho
      intro A' Q' E' s' k q
      unfold isType loadHead
      exact wpAny_bind (wpAny_loadPart (k _ _ (X _ _ ho)) (wpAny_pure q))
    · cases hcd
  ne := fun h tp dd its n sl X htp => by
    obtain ⟨cd, hcd, _⟩ := any_some C.hd
    refine Bool.eq_false_iff.mpr fun q => ?_
    have e : D = tp := Value.ref.inj (beq_iff_eq.mp q)
    subst e
    unfold clsIn at hcd
    split at hcd
    · rename_i ho
      cases (X _ _ ho).symm.trans htp
    · cases hcd
  ca := fun X I k => xclass C X I k
end
end PySem.W
namespace Rf
open PySem L2 TL
theorem pe_never {X : Cx} {e : Expr} : PE X e (fun _ _ _ => False) := ⟨fun _ _ _ _ _ _ h => h.elim⟩
/-- the error's field f; cs: the classes that are known -/
def eXf (cs : Str → Bool) (i : Nat) (f : Str) : EM := fun L S => match L[i]? with
  | some (.exc x) => if cs x.cls = true then lift (x.fs.lookup f) S else .no
  | _ => .no
def XfK (K : PySem.W.Frag) (mg : Str → Option Value) (cs : Str → Bool) (f : Str) : Prop := ∀ c, cs c = true → ∃ C, mg c = some (.ref C) ∧ ExcAt K C ∧ PySem.W.findIn K (.ref C) f = some none
/-- isinstance(the error, C) -/
def eIs (t : IsT) (i : Nat) : EM := fun L S => match L[i]? with
  | some (.exc x) => if x.fs.isEmpty = true then .no else match t x.cls with
    | some b => .ok (.bl b) S
    | none => .no
  | _ => .no
def IsI (K : PySem.W.Frag) (mg : Str → Option Value) (cv : Value) (t : IsT) : Prop := ∀ c b, t c = some b → ∃ C, mg c = some (.ref C) ∧ ExcAt K C ∧ PySem.W.kitOne K (.ref C) cv = some b
section
variable {X : Cx} {W : WX} {a : Addr} {oe : Obj} {pn : List (Addr × Obj)} {y f : Str} {i : Nat} {p pos : Pos} {cs : Str → Bool} {t : IsT} {cv : Value} {v : V}
theorem exc_now {σ : L2.St} {L : Ls} {H : Hp} {g : G} (l : LocRel (kx (X.suite a ((a, oe) :: pn))) σ L H g) {x : Exn} (q : L[i]? = some (.exc x)) : σ[i]? = some (some (.ref a)) ∧ ∃ C, X.mg x.cls = some (.ref C) ∧ oe.cls = .ref C ∧
    ∀ f e, x.fs.lookup f = some e → ∃ d fs v, oe.dict = some d ∧ H d = some (.xd fs) ∧ fs.lookup f = some v ∧ Rep (kx (X.suite a ((a, oe) :: pn))) H g e v := by
  obtain ⟨a', oe', c1, c2, C, c3, c4, c5⟩ := l.exc i x q
  have e : (a, oe) = (a', oe') := Option.some.inj c1
  cases e
  refine ⟨c2, C, c3, c4, fun f e q => ?_⟩
  obtain ⟨d, fs, v, h1, h2, h3, h4, h5⟩ := c5 f e q
  exact ⟨d, fs, v, h1, h3, h4, h5⟩
theorem se_xf (hT : XfK X.K X.mg cs f) (hv : PE (X.suite a ((a, oe) :: pn)) (.Name y p) (tVar i)) (hf : ∃ vs, oe.data = .fields vs) (hb : attributeBase (.Name y p) f X.env (eval (.Name y p) X.env) = eval (.Name y p) X.env) :
    SE (X.suite a ((a, oe) :: pn)) W (.Attribute (.Name y p) f pos) (eXf cs i f) := by
  by_cases hc : ∃ C, oe.cls = .ref C ∧ ExcAt X.K C ∧ PySem.W.findIn X.K (.ref C) f = some none
  · obtain ⟨C, o1, o2, o3⟩ := hc
    refine PE.imp (pe_xf (cls := .ref C) (d := oe.dict) o2.xf o3 ⟨o1, rfl⟩ hf hv hb) fun σ H Q ⟨L, S, g, l, w, q⟩ => ?_
    unfold eXf at q
    split at q
    · rename_i x hx
      obtain ⟨n1, C', n2, n3, n4⟩ := exc_now l hx
      by_cases hcs : cs x.cls = true
      · rw [if_pos hcs] at q
        cases z : x.fs.lookup f with
        | none => rw [z] at q; exact q.elim
        | some e =>
          rw [z] at q
          obtain ⟨d, fs, v, m1, m2, m3, m4⟩ := n4 f e z
          exact ⟨_, n1, rfl, rfl, d, fs, v, m1, m2, m3, Post.ret q w m4⟩
      · rw [if_neg hcs] at q
        exact q.elim
    · exact q.elim
  · refine PE.imp pe_never fun σ H Q ⟨L, S, g, l, w, q⟩ => ?_
    unfold eXf at q
    split at q
    · rename_i x hx
      obtain ⟨n1, C', n2, n3, n4⟩ := exc_now l hx
      by_cases hcs : cs x.cls = true
      · obtain ⟨C2, k1, k2, k3⟩ := hT _ hcs
        rw [n2] at k1
        cases k1
        exact hc ⟨_, n3, k2, k3⟩
      · rw [if_neg hcs] at q
        exact q
    · exact q
/-- isinstance(e, c), e the exception that the suite holds, of the class at D -/
def rIsX (K : PySem.W.Frag) (D a : Addr) (od : Option Addr) : List V → Hp → VK → Prop := fun xs H Q => ∃ (c : V) (cv : Value) (b : Bool), xs = [.ref a, c] ∧ (∀ u, RelV c u → u = cv) ∧ PySem.W.kitOne K (.ref D) cv = some b ∧
  (∃ d fs, od = some d ∧ H d = some (.xd fs)) ∧ Q (.bl b) H
theorem call_isX {D : Addr} (C : ExcAt X.K D) (hz : oe.cls = .ref D) (hf : ∃ vs, oe.data = .fields vs) : CallR (X.suite a ((a, oe) :: pn)) (.builtin "isinstance") (rIsX X.K D a oe.dict) := by
  intro pins s σ H xs us Q I r h
  obtain ⟨c, cv, b, rfl, hcv, e, ⟨d, fs, hd, hx⟩, q⟩ := h
  cases r with
  | cons rx rr =>
    cases rr with
    | cons rt rr =>
      cases rr
      cases rx
      have ec := hcv _ rt
      subst ec
      obtain ⟨hget, _⟩ := I.pin (a, oe) (List.mem_append.mpr (.inl List.mem_cons_self))
      obtain ⟨o, ho⟩ := objOk_get (I.hok d _ hx)
      obtain ⟨vs, hv⟩ := hf
      obtain ⟨oc, odt, oda, osl⟩ := oe
      dsimp only at hz hv hd
      subst hz hv hd
      have J : PySem.W.InstAt s.heap a _ D (some o) := ⟨hget, rfl, rfl, ho⟩
      exact PySem.W.kia_one (PySem.W.xkit C.toExcC) I.kIn J e (fun z => nomatch z) fun tk => ⟨.bl b, H, I.kept (t' := tk) fun _ _ z => z, rfl, q⟩
theorem se_isX {e2 : Expr} {p2 : Pos} (hT : IsI X.K X.mg cv t) (hg : Gl (X.suite a ((a, oe) :: pn)) "isinstance") (hm : X.mg "isinstance" = none) (hv : PE (X.suite a ((a, oe) :: pn)) (.Name y p) (tVar i)) (hf : ∃ vs, oe.data = .fields vs)
    (he : PE (X.suite a ((a, oe) :: pn)) e2 (tC v)) (hcv : ∀ u, RelV v u → u = cv) (hs : noStar e2 = true) :
    SE (X.suite a ((a, oe) :: pn)) W (.Call (.Name "isinstance" p2) [.Name y p, e2] [] pos) (eIs t i) := by
  by_cases hc : ∃ C, oe.cls = .ref C ∧ ExcAt X.K C
  · obtain ⟨C, o1, o2⟩ := hc
    refine PE.imp (pe_callB (call_isX (pn := pn) o2 o1 hf) hg hm (by decide) (pa_cons hv (pa_cons he pa_nil (star_cons hs)) rfl) (by decide) (by decide) rfl (by rw [star_cons hs]; rfl)) fun σ H Q ⟨L, S, g, l, w, q⟩ => ?_
    unfold eIs at q
    split at q
    · rename_i x hx
      obtain ⟨n1, C', n2, n3, n4⟩ := exc_now l hx
      obtain ⟨xc, xf⟩ := x
      cases xf with
      | nil => exact q.elim
      | cons fe r =>
        obtain ⟨f0, e0⟩ := fe
        simp only [List.isEmpty_cons, Bool.false_eq_true, if_false] at q
        cases z : t xc with
        | none => simp only [z] at q; exact q.elim
        | some b =>
          simp only [z] at q
          obtain ⟨C2, k1, k2, k3⟩ := hT _ _ z
          have n2' : X.mg xc = some (.ref C') := n2
          rw [n2'] at k1
          cases k1
          have o1' := o1.symm.trans n3
          cases o1'
          obtain ⟨d, fs, v', m1, m2, m3, m4⟩ := n4 f0 e0 (by simp [List.lookup])
          exact ⟨_, n1, v, cv, b, rfl, hcv, k3, ⟨d, fs, m1, m2⟩, Post.ret q w rfl⟩
    · exact q.elim
  · refine PE.imp pe_never fun σ H Q ⟨L, S, g, l, w, q⟩ => ?_
    unfold eIs at q
    split at q
    · rename_i x hx
      obtain ⟨n1, C', n2, n3, n4⟩ := exc_now l hx
      by_cases he : x.fs.isEmpty = true
      · rw [if_pos he] at q; exact q
      · rw [if_neg he] at q
        cases z : t x.cls with
        | none => simp only [z] at q; exact q
        | some b =>
          obtain ⟨C2, k1, k2, k3⟩ := hT _ _ z
          rw [n2] at k1
          cases k1
          exact hc ⟨_, n3, k2⟩
    · exact q
end
end Rf

set_option Elab.async false
set_option linter.all false
set_option maxRecDepth 100000
set_option maxHeartbeats 0
/-! Rf, part 28: the rules of the walk for exceptions. -/
namespace Rf
open PySem L2 TL
variable {xp : ExP}
section
variable {P : D → Sto → Prop} {PS : Fl → Ls → Sto → Prop} {L : Ls} {S : Sto} {i j : Nat} {m : EM} {c f : Str} {is t : IsT} {b su : SM} {cs : Str → Bool}
instance : Ws (sRaise c f m L S) PS (wp (m L S) fun d S1 => xp.E ⟨c, [(f, d)]⟩ S1) := ⟨fun h => by
  unfold sRaise
  rw [wps_st]
  exact h.mono fun d S1 h => ⟨h⟩⟩
theorem q_suR {r : RS} (h : @wps noXP r fun fl L2 S2 => noX (L2.set i .un) = true ∧ PS fl (L2.set i .un) S2) : wps (suR i r) PS := by
  cases r with
  | no => exact h.out.elim
  | ex x L S => exact h.out.elim
  | ok fl L2 S2 =>
    obtain ⟨h1, h2⟩ := h.out
    show wps (if noX (L2.set i .un) = true then RS.ok fl (L2.set i .un) S2 else .no) PS
    rw [if_pos h1]
    exact ⟨h2⟩
/-- what is wanted of an exception of a try's body, where the locals are L -/
@[reducible] def tryX (xp : ExP) (is : IsT) (i : Nat) (su : SM) (L : Ls) (PS : Fl → Ls → Sto → Prop) : ExP := ⟨fun x S1 => ∃ b, is x.cls = some b ∧ (b = true → @wps noXP (su (L.set i (.exc x)) S1) fun fl L2 S2 => noX (L2.set i .un) = true ∧ PS fl (L2.set i .un) S2) ∧ (b = false → xp.E x S1)⟩
theorem try_ex {x : Exn} {S1 : Sto} (h : (tryX xp is i su L PS).E x S1) (e : b L S = .ex x L S1) : wps (sTry is i b su L S) PS := by
  obtain ⟨bb, e1, h1, h2⟩ := h
  unfold sTry
  rw [e]
  simp only [e1]
  cases bb with
  | true => exact q_suR (h1 rfl)
  | false => exact ⟨h2 rfl⟩
/-- the body is one statement that sets a name -/
theorem q_try_set (h : @wp (tryX xp is i su L PS) _ (m L S) fun d S1 => PS .nx (L.set j (.v d)) S1) : wps (sTry is i (sSeq (sSet j m) sNil) su L S) PS := by
  cases q : m L S with
  | no => rw [q] at h; exact h.out.elim
  | ex x S1 =>
    rw [q] at h
    refine try_ex h.out ?_
    unfold sSeq sSet
    rw [q]
  | ok d S1 =>
    rw [q] at h
    have e : sSeq (sSet j m) sNil L S = .ok .nx (L.set j (.v d)) S1 := by
      unfold sSeq sSet
      rw [q] <;> rfl
    unfold sTry
    rw [e]
    exact ⟨h.out⟩
theorem q_try_drop (h : @wp (tryX xp is i su L PS) _ (m L S) fun d S1 => PS .nx L S1) : wps (sTry is i (sSeq (sDrop m) sNil) su L S) PS := by
  cases q : m L S with
  | no => rw [q] at h; exact h.out.elim
  | ex x S1 =>
    rw [q] at h
    refine try_ex h.out ?_
    unfold sSeq sDrop
    rw [q]
  | ok d S1 =>
    rw [q] at h
    have e : sSeq (sDrop m) sNil L S = .ok .nx L S1 := by
      unfold sSeq sDrop
      rw [q] <;> rfl
    unfold sTry
    rw [e]
    exact ⟨h.out⟩
theorem q_try_ret (h : @wp (tryX xp is i su L PS) _ (m L S) fun d S1 => PS (.rt d) L S1) : wps (sTry is i (sSeq (sRet m) sNil) su L S) PS := by
  cases q : m L S with
  | no => rw [q] at h; exact h.out.elim
  | ex x S1 =>
    rw [q] at h
    refine try_ex h.out ?_
    unfold sSeq sRet
    rw [q]
  | ok d S1 =>
    rw [q] at h
    have e : sSeq (sRet m) sNil L S = .ok (.rt d) L S1 := by
      unfold sSeq sRet
      rw [q]
    unfold sTry
    rw [e]
    exact ⟨h.out⟩
instance : Ws (sTry is i (sSeq (sSet j m) sNil) su L S) PS (@wp (tryX xp is i su L PS) _ (m L S) fun d S1 => PS .nx (L.set j (.v d)) S1) := ⟨q_try_set⟩
instance : Ws (sTry is i (sSeq (sDrop m) sNil) su L S) PS (@wp (tryX xp is i su L PS) _ (m L S) fun d S1 => PS .nx L S1) := ⟨q_try_drop⟩
instance : Ws (sTry is i (sSeq (sRet m) sNil) su L S) PS (@wp (tryX xp is i su L PS) _ (m L S) fun d S1 => PS (.rt d) L S1) := ⟨q_try_ret⟩
instance : Wp (eXf cs i f L S) P (∃ x, L[i]? = some (.exc x) ∧ cs x.cls = true ∧ ∃ d, x.fs.lookup f = some d ∧ P d S) := ⟨fun ⟨x, e1, e2, d, e3, h⟩ => by
  unfold eXf
  rw [e1]
  dsimp only
  rw [if_pos e2, e3]
  exact ⟨h⟩⟩
instance : Wp (eIs t i L S) P (∃ x, L[i]? = some (.exc x) ∧ x.fs.isEmpty = false ∧ ∃ b, t x.cls = some b ∧ P (.bl b) S) := ⟨fun ⟨x, e1, e2, d, e3, h⟩ => by
  unfold eIs
  rw [e1]
  dsimp only
  rw [e2, e3]
  exact ⟨h⟩⟩
/-- a run that is known to raise -/
theorem wp.exn {α : Type} {r : R α} {P : α → Sto → Prop} {x : Exn} {S : Sto} (e : r = .ex x S) (h : xp.E x S) : wp r P := by rw [e]; exact ⟨h⟩
/-- what a run comes to, with its exceptions -/
theorem wp.cases {α : Type} {r : R α} {P : α → Sto → Prop} {Ex : Exn → Sto → Prop} (h : @wp ⟨Ex⟩ _ r P) {Q : α → Sto → Prop} (h1 : ∀ a S, P a S → Q a S) (h2 : ∀ x S, Ex x S → xp.E x S) : wp r Q := by
  cases r with
  | ok a S => exact ⟨h1 _ _ h.out⟩
  | ex x S => exact ⟨h2 _ _ h.out⟩
  | no => exact h.out.elim
end
end Rf

set_option Elab.async false
set_option linter.all false
set_option maxRecDepth 100000
set_option maxHeartbeats 0
/-! Rf, part 29: the checks of the tables of exception classes. -/
namespace Rf
open PySem L2 TL
def isT (l : List (Str × Bool)) : IsT := fun c => l.lookup c
theorem lookup_mem {c : Str} {b : Bool} : ∀ {l : List (Str × Bool)}, l.lookup c = some b → (c, b) ∈ l
  | [], h => by cases h
  | (d, e) :: l, h => by
    rw [List.lookup_cons] at h
    cases z : (c == d) with
    | true =>
      rw [z] at h
      have e1 : c = d := by simpa using z
      have e2 : e = b := by simpa using h
      rw [e1, e2]
      exact List.mem_cons_self
    | false =>
      rw [z] at h
      exact List.mem_cons_of_mem _ (lookup_mem h)
def xsB (K : PySem.W.Frag) (c : Str) : Bool := okO (PySem.W.nsIn K mainGlobals c) (some (some (.ref (He.ga K c))))
def isB (K : PySem.W.Frag) (cv : Value) (l : List (Str × Bool)) : Bool := l.all fun q => xsB K q.1 && decide (PySem.W.exmOne K (.ref (He.ga K q.1)) cv = some q.2)
def kiB (K : PySem.W.Frag) (cv : Value) (l : List (Str × Bool)) : Bool := l.all fun q => xsB K q.1 && (excB K (He.ga K q.1) && decide (PySem.W.kitOne K (.ref (He.ga K q.1)) cv = some q.2))
def xfsB (K : PySem.W.Frag) (f : Str) (l : List Str) : Bool := l.all fun c => xsB K c && (excB K (He.ga K c) && okO (PySem.W.findIn K (.ref (He.ga K c)) f) (some none))
section
variable {K : PySem.W.Frag} {h : Heap} {mg : Str → Option Value} {cv : Value} {l : List (Str × Bool)} {f : Str} {cl : List Str}
theorem isB_ok (X : K.In h) (G : h.Ns mainGlobals mg) (q : isB K cv l = true) : IsK K mg cv (isT l) := fun c b e => by
  obtain ⟨h1, h2⟩ := b2 (List.all_eq_true.mp q _ (lookup_mem e))
  exact ⟨_, PySem.W.mg_of X G (okO_ok h1), of_decide_eq_true h2⟩
theorem kiB_ok (X : K.In h) (G : h.Ns mainGlobals mg) (q : kiB K cv l = true) : IsI K mg cv (isT l) := fun c b e => by
  obtain ⟨h1, h2⟩ := b2 (List.all_eq_true.mp q _ (lookup_mem e))
  obtain ⟨h2, h3⟩ := b2 h2
  exact ⟨_, PySem.W.mg_of X G (okO_ok h1), excB_ok h2, of_decide_eq_true h3⟩
theorem xfsB_ok (X : K.In h) (G : h.Ns mainGlobals mg) (q : xfsB K f cl = true) : XfK K mg (fun c => cl.contains c) f := fun c e => by
  obtain ⟨h1, h2⟩ := b2 (List.all_eq_true.mp q c (by simpa using e))
  obtain ⟨h2, h3⟩ := b2 h2
  exact ⟨_, PySem.W.mg_of X G (okO_ok h1), excB_ok h2, okO_ok h3⟩
end
/-- the first def of a class's body -/
def iniOf : Stmt → Stmt
  | .ClassDef _ _ _ body _ _ _ _ _ _ _ => (body.find? fun s => match s with
    | .FunctionDef .. => true
    | _ => false).getD (.Pass ⟨0, 0, 0, 0⟩)
  | s => s
end Rf

set_option Elab.async false
set_option linter.all false
set_option maxRecDepth 100000
set_option maxHeartbeats 0
/-! Rf, part 30: text * int. -/
namespace Rf
open PySem PySem.Spec PyProof.Rows L2 TL
section
variable {X : Cx}
theorem op_mul_str : OpR X (binaryOp .Mult) (fun x y H Q => ∃ i k, x = .str i ∧ y = .int k ∧ i.length ≤ 16 ∧ -(2 ^ 63) ≤ k ∧ k ≤ 1048576 ∧ Q (.str (Txt.mul i k)) H) := by
  intro pins s σ H x y v u Q I rx ry h
  obtain ⟨i, k, rfl, rfl, h1, h2, h3, q⟩ := h
  obtain ⟨t, rfl⟩ := rx
  obtain ⟨t', rfl⟩ := ry
  exact SB.mul (mulOk_of 16 1048576 h1 h3 h2 (by decide) (by decide)) fun t' tk => ⟨.str (Txt.mul i k), H, I.tok _, ⟨_, rfl⟩, q⟩
theorem foldl_reps (c : List Nat) : ∀ (k : Nat) (acc : List Nat), (List.replicate k c.toArray).foldl (· ++ ·) acc.toArray = (acc ++ (List.replicate k c).flatten).toArray
  | 0, acc => by simp
  | k + 1, acc => by
    rw [List.replicate_succ, List.foldl_cons, List.replicate_succ, List.flatten_cons, ← List.append_assoc]
    have : acc.toArray ++ c.toArray = (acc ++ c).toArray := by simp
    rw [this, foldl_reps c k]
theorem mk_mul (a : List Nat) (k : Int) : Txt.mul ⟨a.toArray⟩ k = ⟨((List.replicate k.toNat a).flatten).toArray⟩ := by
  unfold Txt.mul
  by_cases h1 : k < 1
  · rw [if_pos h1]
    have : k.toNat = 0 := by omega
    rw [this]; rfl
  · rw [if_neg h1]
    split
    · rename_i hc
      rw [Bool.or_eq_true, beq_iff_eq, beq_iff_eq] at hc
      rcases hc with h | h
      · subst h
        show _ = (⟨((List.replicate 1 a).flatten).toArray⟩ : Str)
        rw [List.replicate_succ, List.replicate_zero, List.flatten_cons, List.flatten_nil, List.append_nil]
      · have : a = [] := by
          have h : a.toArray.size = 0 := h
          rw [List.size_toArray] at h
          exact List.eq_nil_of_length_eq_zero h
        subst this
        have : ∀ n : Nat, (List.replicate n ([] : List Nat)).flatten = [] := fun n => by
          induction n with
          | zero => rfl
          | succ n ih => rw [List.replicate_succ, List.flatten_cons, ih]; rfl
        rw [this]
    · have := foldl_reps a k.toNat []
      rw [List.nil_append] at this
      show (⟨(List.replicate k.toNat a.toArray).foldl (· ++ ·) #[]⟩ : Str) = _
      rw [← this]
/-- text * int, else as oMul -/
def oMulT : D → D → Option D
  | .str a, .int b => if a.length ≤ 16 ∧ -(2 ^ 63) ≤ b ∧ b ≤ 1048576 then some (.str (List.replicate b.toNat a).flatten) else none
  | d, e => oMul d e
theorem oMulT_ok : OpC X (binaryOp .Mult) oMulT := by
  intro d e res h
  unfold oMulT at h
  split at h
  · split at h
    · rename_i a b hz
      cases h
      rintro pins s σ H x y v u Q I rx ry ⟨g, S, w, c1, c2, q⟩
      cases c1; cases c2
      exact op_mul_str pins s σ H _ _ v u Q I rx ry ⟨_, _, rfl, rfl, by rw [mk_len]; exact hz.1, hz.2.1, hz.2.2, scalar_fin q w (by rw [mk_mul] <;> rfl)⟩
    · cases h
  · exact oMul_ok _ _ _ h
end
theorem x_muls {a : List Nat} {b : Int} (h : a.length ≤ 16 ∧ -(2 ^ 63) ≤ b ∧ b ≤ 1048576) : oMulT (.str a) (.int b) = some (.str (List.replicate b.toNat a).flatten) := if_pos h
theorem x_mulTi {a b : Int} (h : a.natAbs.log2 + b.natAbs.log2 < 1000000) : oMulT (.int a) (.int b) = some (.int (a * b)) := if_pos h
theorem x_mulTl {a : List D} {b : Int} (h : -(2 ^ 63) ≤ b ∧ b < 2 ^ 63 ∧ a.length * b.toNat ≤ sizeLine) : oMulT (.lst a) (.int b) = some (.lst (List.replicate b.toNat a).flatten) := if_pos h
instance {a : List Nat} {b : Int} : Og (oMulT (.str a) (.int b)) (.str (List.replicate b.toNat a).flatten) (a.length ≤ 16 ∧ -(2 ^ 63) ≤ b ∧ b ≤ 1048576) := ⟨x_muls⟩
instance {a b : Int} : Og (oMulT (.int a) (.int b)) (.int (a * b)) (a.natAbs.log2 + b.natAbs.log2 < 1000000) := ⟨x_mulTi⟩
instance {a : List D} {b : Int} : Og (oMulT (.lst a) (.int b)) (.lst (List.replicate b.toNat a).flatten) (-(2 ^ 63) ≤ b ∧ b < 2 ^ 63 ∧ a.length * b.toNat ≤ sizeLine) := ⟨x_mulTl⟩
end Rf

set_option Elab.async false
set_option linter.all false
set_option maxRecDepth 100000
set_option maxHeartbeats 0
/-! Rf, part 31: a dict of the frame's own whose keys are tuples of ints. -/
namespace Rf
open PySem L2 TL

/-! ### an own object is changed -/
section
variable {k : Kx} {B H : Hp} {gB g : G} {S : Sto} {σ : L2.St} {L : Ls} {a : Addr} {o o' : O} {u : HO}
theorem ow_pext (h : OwnAt k H g a o) (ht : ∀ xs, H a ≠ some (.tup xs)) (hz : ∀ p q, H a ≠ some (.frz p q)) : PExt H g (upd H a u) g := by
  obtain ⟨_, nf, nr⟩ := h
  refine ⟨fun _ f => f, fun b o f q => ?_, fun b xs q => ?_, fun b o u q => ?_, Nat.le_refl _, fun _ _ => rfl⟩
  · rw [upd_ne (fun z => nf (by rw [← z]; exact f))]; exact q
  · rw [upd_ne (fun z => ht xs (by rw [← z]; exact q))]; exact q
  · rw [upd_ne (fun z => hz o u (by rw [← z]; exact q))]; exact q
theorem ow_wf (h : OwnAt k H g a o) (pe : PExt H g (upd H a u) g) (w : WF k H g S) : WF k (upd H a u) g S where
  len := w.len
  ob := fun i o e => (w.ob i o e).mono pe fun u q => by
    rw [upd_ne (fun z => h.2.2 i (by rw [← w.len]; exact (List.getElem?_eq_some_iff.mp e).1) z)]; exact q
  inj := w.inj
  nF := w.nF
  tF := fun b f => by
    obtain ⟨o, q⟩ := w.tF b f
    exact ⟨o, by rw [upd_ne (fun z => h.2.1 (by rw [← z]; exact f))]; exact q⟩
theorem ow_ext (e : Ext B gB H g) (hB : B a = none) : Ext B gB (upd H a u) g where
  toPExt := ⟨e.F, fun b o f q => by rw [upd_ne (ne_of_none q hB)]; exact e.kF b o f q, fun b xs q => by rw [upd_ne (ne_of_none q hB)]; exact e.kT b xs q, fun b o u q => by rw [upd_ne (ne_of_none q hB)]; exact e.kZ b o u q, e.n, e.ρ⟩
  keep := fun b o q n => by rw [upd_ne (ne_of_none q hB)]; exact e.keep b o q n
  newF := e.newF
  newρ := e.newρ
  tr := fun b o q => by
    obtain ⟨u, z⟩ := e.tr b o q
    exact ⟨u, by rw [upd_ne (ne_of_none q hB)]; exact z⟩
theorem Fr.chgU {i : Nat} (f : Fr k B gB σ L H g S) (hi : L[i]? = some (.o o)) (ha : σ[i]? = some (some (.ref a))) (ht : ∀ xs, H a ≠ some (.tup xs)) (hz : ∀ p q, H a ≠ some (.frz p q)) (r : ORep k (upd H a u) g o' a) :
    Fr k B gB σ (L.set i (.o o')) (upd H a u) g S ∧ PExt H g (upd H a u) g := by
  obtain ⟨b, hb, oa⟩ := f.loc.own i _ hi
  rw [ha] at hb
  cases hb
  have pe : PExt H g (upd H a u) g := ow_pext oa ht hz
  have hl : i < L.length := (List.getElem?_eq_some_iff.mp hi).1
  refine ⟨⟨⟨by rw [List.length_set, f.loc.len], fun j e h => ?_, fun j u h => ?_, fun j l u w b hj hl pj pl => ?_, (f.loc.exc.mono pe).setL nofun⟩, ow_wf oa pe f.wf, ow_ext f.base (f.new i _ a hi ha), fun j u b h h' => ?_⟩, pe⟩
  · by_cases hj : i = j
    · subst hj
      rw [List.getElem?_set_self hl] at h; cases h
    · rw [List.getElem?_set_ne hj] at h
      obtain ⟨v, q1, q2⟩ := f.loc.val j e h
      exact ⟨v, q1, q2.mono pe _ _⟩
  · by_cases hj : i = j
    · subst hj
      rw [List.getElem?_set_self hl] at h
      cases h
      exact ⟨a, ha, r, oa.2⟩
    · rw [List.getElem?_set_ne hj] at h
      obtain ⟨b, q1, q2⟩ := f.loc.own j u h
      have hb : b ≠ a := fun z => by
        subst z
        exact hj (f.loc.sep i j _ u b hi h ha q1)
      exact ⟨b, q1, q2.1.mono pe fun o q => by rw [upd_ne hb]; exact q, q2.2⟩
  · obtain ⟨u', hj⟩ := own_at hj ⟨_, hi⟩
    obtain ⟨w', hl⟩ := own_at hl ⟨_, hi⟩
    exact f.loc.sep j l u' w' b hj hl pj pl
  · obtain ⟨u', h⟩ := own_at h ⟨_, hi⟩
    exact f.new j u' b h h'
end

/-! ### keys, values -/
def ksI : List D → Option (List Key)
  | [] => some []
  | .int i :: ds => (ksI ds).map (Sum.inl i :: ·)
  | _ => none
def kTup : D → Option (List Key)
  | .tup ds => ksI ds
  | _ => none
def kD : Key → D
  | .inl i => .int i
  | .inr x => .str x.cps.toList
abbrev Dct := List (List Key × D)
def dGet (kvs : Dct) (q : List Key) : Option D := (kvs.find? fun kv => decide (kv.1 = q)).map (·.2)
def dPut (kvs : Dct) (q : List Key) (d : D) : Dct :=
  if (kvs.any fun kv => decide (kv.1 = q)) = true then kvs.map (fun kv => if kv.1 = q then (kv.1, d) else kv) else kvs ++ [(q, d)]
section
variable {k : Kx} {H : Hp} {g : G}
theorem ksI_ok : ∀ {ds : List D} {ks : List Key} {vs : List V}, ksI ds = some ks → RepL k H g ds vs → vs = ks.map kV ∧ ∀ v ∈ vs, ∃ i, v = V.int i
  | [], ks, vs, h, r => by
    cases h
    cases (show vs = [] from r)
    exact ⟨rfl, fun v hv => by cases hv⟩
  | .int i :: ds, ks, vs, h, ⟨v, t, e, r1, r2⟩ => by
    simp only [ksI, Option.map_eq_some_iff] at h
    obtain ⟨l, h, rfl⟩ := h
    obtain ⟨q1, q2⟩ := ksI_ok h r2
    cases (show v = V.int i from r1)
    subst e
    refine ⟨by rw [q1]; rfl, fun w hw => ?_⟩
    rcases List.mem_cons.mp hw with rfl | hw
    · exact ⟨i, rfl⟩
    · exact q2 w hw
  | .non :: _, _, _, h, _ => by cases h
  | .bl _ :: _, _, _, h, _ => by cases h
  | .str _ :: _, _, _, h, _ => by cases h
  | .tup _ :: _, _, _, h, _ => by cases h
  | .lst _ :: _, _, _, h, _ => by cases h
  | .obj _ :: _, _, _, h, _ => by cases h
  | .gl _ :: _, _, _, h, _ => by cases h
  | .ty _ :: _, _, _, h, _ => by cases h
  | .scr _ :: _, _, _, h, _ => by cases h
  | .edc :: _, _, _, h, _ => by cases h
  | .ins _ _ _ :: _, _, _, h, _ => by cases h
/-- a tuple of ints stands in the written-to part -/
theorem kTup_ok {y : D} {w : V} {ks : List Key} (h : kTup y = some ks) (r : Rep k H g y w) : ∃ b, w = .ref b ∧ H b = some (.tup (ks.map kV)) := by
  cases y with
  | tup ds =>
    obtain ⟨b, vs, e, t, r⟩ := r
    obtain ⟨q1, q2⟩ := ksI_ok h r
    rcases t with t | ⟨_, v, hv, hn⟩
    · exact ⟨b, e, by rw [t, q1]⟩
    · obtain ⟨i, hi⟩ := q2 v hv
      exact absurd hi (hn i)
  | _ => cases h
def KVR (k : Kx) (H : Hp) (g : G) : Dct → List (List Key × V) → Prop
  | [], ws => ws = []
  | p :: r, ws => ∃ v t, ws = (p.1, v) :: t ∧ Rep k H g p.2 v ∧ KVR k H g r t
theorem kvr_of : ∀ {kvs : Dct} {vs : List V}, RepL k H g (kvs.map (·.2)) vs → KVR k H g kvs ((kvs.map (·.1)).zip vs)
  | [], vs, h => rfl
  | p :: r, vs, ⟨v, t, e, h1, h2⟩ => by
    subst e
    exact ⟨v, _, rfl, h1, kvr_of h2⟩
theorem of_kvr : ∀ {kvs : Dct} {ws : List (List Key × V)}, KVR k H g kvs ws → ∃ vs, ws = (kvs.map (·.1)).zip vs ∧ RepL k H g (kvs.map (·.2)) vs
  | [], ws, h => ⟨[], by rw [show ws = [] from h]; rfl, rfl⟩
  | p :: r, ws, ⟨v, t, e, h1, h2⟩ => by
    obtain ⟨vs, q1, q2⟩ := of_kvr h2
    exact ⟨v :: vs, by rw [e, q1]; rfl, v, vs, rfl, h1, q2⟩
theorem orT {kvs : Dct} {a : Addr} : ORep k H g (.dT kvs) a ↔ ∃ ws, H a = some (.dT ws) ∧ KVR k H g kvs ws := by
  constructor
  · rintro ⟨vs, e, r⟩
    exact ⟨_, e, kvr_of r⟩
  · rintro ⟨ws, e, r⟩
    obtain ⟨vs, q, r⟩ := of_kvr r
    exact ⟨vs, by rw [e, q], r⟩
theorem KVR.mono {H' : Hp} {g' : G} (e : PExt H g H' g') : ∀ {kvs : Dct} {ws : List (List Key × V)}, KVR k H g kvs ws → KVR k H' g' kvs ws
  | [], ws, h => h
  | p :: r, ws, ⟨v, t, q, h1, h2⟩ => ⟨v, t, q, h1.mono e _ _, KVR.mono e h2⟩
theorem KVR.len : ∀ {kvs : Dct} {ws : List (List Key × V)}, KVR k H g kvs ws → ws.length = kvs.length
  | [], ws, h => by rw [show ws = [] from h]; rfl
  | p :: r, ws, ⟨v, t, e, h1, h2⟩ => by rw [e, List.length_cons, List.length_cons, KVR.len h2]
theorem KVR.fst : ∀ {kvs : Dct} {ws : List (List Key × V)}, KVR k H g kvs ws → ws.map (·.1) = kvs.map (·.1)
  | [], ws, h => by rw [show ws = [] from h]; rfl
  | p :: r, ws, ⟨v, t, e, h1, h2⟩ => by rw [e, List.map_cons, List.map_cons, KVR.fst h2]
theorem KVR.get {q : List Key} {d : D} : ∀ {kvs : Dct} {ws : List (List Key × V)}, KVR k H g kvs ws → dGet kvs q = some d → ∃ v, valV ws q = some v ∧ Rep k H g d v
  | [], ws, h, e => by cases e
  | p :: r, ws, ⟨v, t, e, h1, h2⟩, hg => by
    subst e
    by_cases hp : p.1 = q
    · rw [valV_pos (p := (p.1, v)) hp]
      unfold dGet at hg
      rw [List.find?_cons, decide_eq_true hp] at hg
      have : p.2 = d := by simpa using hg
      subst this
      exact ⟨v, rfl, h1⟩
    · rw [valV_neg (p := (p.1, v)) hp]
      unfold dGet at hg
      rw [List.find?_cons, decide_eq_false hp] at hg
      exact KVR.get h2 hg
theorem KVR.any {q : List Key} : ∀ {kvs : Dct} {ws : List (List Key × V)}, KVR k H g kvs ws → (ws.any fun kv => decide (kv.1 = q)) = kvs.any fun kv => decide (kv.1 = q)
  | [], ws, h => by rw [show ws = [] from h]; rfl
  | p :: r, ws, ⟨v, t, e, h1, h2⟩ => by rw [e, List.any_cons, List.any_cons, KVR.any h2]
theorem KVR.upd {q : List Key} {d : D} {v : V} (h : Rep k H g d v) : ∀ {kvs : Dct} {ws : List (List Key × V)}, KVR k H g kvs ws → KVR k H g (kvs.map fun kv => if kv.1 = q then (kv.1, d) else kv) (ws.map fun kv => if kv.1 = q then (kv.1, v) else kv)
  | [], ws, e => by rw [show ws = [] from e]; rfl
  | p :: r, ws, ⟨u, t, e, h1, h2⟩ => by
    subst e
    rw [List.map_cons, List.map_cons]
    by_cases hp : p.1 = q
    · rw [if_pos hp, if_pos (show ((p.1, u) : List Key × V).1 = q from hp)]
      exact ⟨v, _, rfl, h, KVR.upd h h2⟩
    · rw [if_neg hp, if_neg (show ¬ ((p.1, u) : List Key × V).1 = q from hp)]
      exact ⟨u, _, rfl, h1, KVR.upd h h2⟩
theorem KVR.snoc {q : List Key} {d : D} {v : V} (h : Rep k H g d v) : ∀ {kvs : Dct} {ws : List (List Key × V)}, KVR k H g kvs ws → KVR k H g (kvs ++ [(q, d)]) (ws ++ [(q, v)])
  | [], ws, e => by rw [show ws = [] from e]; exact ⟨v, [], rfl, h, rfl⟩
  | p :: r, ws, ⟨u, t, e, h1, h2⟩ => by subst e; exact ⟨u, _, rfl, h1, KVR.snoc h h2⟩
theorem KVR.put {q : List Key} {d : D} {v : V} {kvs : Dct} {ws : List (List Key × V)} (r : KVR k H g kvs ws) (h : Rep k H g d v) : KVR k H g (dPut kvs q d) (putK ws q v) := by
  unfold dPut putK
  rw [r.any]
  split
  · exact r.upd h
  · exact r.snoc h
end

/-! ### the statements -/
def sDct (i : Nat) : SM := fun L S => .ok .nx (L.set i (.o (.dT []))) S
def sPutT (i : Nat) (mk mv : EM) : SM := fun L S => (mv L S).st L fun d S1 => match L[i]? with
  | some (.o (.dT kvs)) => (mk L S1).st L fun y S2 => match kTup y with
    | some q => if kvs.length < sizeLine then .ok .nx (L.set i (.o (.dT (dPut kvs q d)))) S2 else .no
    | none => .no
  | _ => .no
def eGetT (i : Nat) (mk : EM) : EM := fun L S => match L[i]? with
  | some (.o (.dT kvs)) => (mk L S).bind fun y S1 => match kTup y with
    | some q => lift (dGet kvs q) S1
    | none => .no
  | _ => .no
def fKeysT (i : Nat) : Ls → Sto → R (List D) := fun L S => match L[i]? with
  | some (.o (.dT kvs)) => .ok (kvs.map fun kv => .tup (kv.1.map kD)) S
  | _ => .no
section
variable {X : Cx} {W : WX} {x : Str} {e ix : Expr} {pos pos' px ps dp : Pos} {i : Nat} {mi m : EM}
theorem ss_dct (hN : X.N.Nodup) (hi : X.N[i]? = some x) (hx : Loc X.env.scope x) (hf : X.fn x = true) : SS X W (.Assign [.Name x pos'] (.Dict [] [] dp) pos) (sDct i) :=
  PS.imp (ps_set hN hi hx pe_dnewT (no_swap rfl) (.inl hf)) fun D σ H ⟨L, S, g, B, gB, f, p⟩ => fun q hq => by
    have e := Ext.new (g := g) (o := HO.dT []) hq
    have f1 := f.ext e (f.wf.new hq)
    have oa : OwnAt (kx X) (upd H q (.dT [])) g q (.dT []) := by
      refine ⟨⟨[], upd_same, rfl⟩, fun f' => ?_, fun j hj z => ?_⟩
      · obtain ⟨o, z⟩ := f.wf.tF q f'
        rw [hq] at z; cases z
      · obtain ⟨o, y⟩ := f.wf.ρt hj
        rw [z, hq] at y; cases y
    have f2 := f1.put (i := i) oa (fresh_of f.base hq) fun j u _ hj hp => by
      obtain ⟨b, hb, ob⟩ := f.loc.own j u hj
      rw [hp] at hb
      cases hb
      obtain ⟨w, z⟩ := ob.1.tr
      rw [hq] at z; cases z
    exact p _ _ g f2 e.toPExt
theorem ss_putT (hu : X.A.units + 1 < cLine) (hv : PE X (.Name x px) (tVar i)) (hi : SE X W ix mi) (he : SE X W e m) (hs : swapsWith e (some (.Subscript (.Name x px) ix ps)) pos.line X.env = pure false) :
    SS X W (.Assign [.Subscript (.Name x px) ix ps] e pos) (sPutT i mi m) :=
  PS.imp (ps_dput hu hv hi he hs) fun D σ H ⟨L, S, g, B, gB, f, p⟩ =>
    ⟨L, S, g, f.loc, f.wf, st_e f p fun d S1 v H1 g1 f1 e1 r p1 => by
      split at p1
      · rename_i kvs q
        obtain ⟨p0, ha, oa⟩ := f1.loc.own i _ q
        refine ⟨_, ha, L, S1, g1, f1.loc, f1.wf, st_e f1 p1 fun y S2 w H2 g2 f2 e2 r2 p2 => ?_⟩
        split at p2
        · rename_i ks hk
          split at p2
          · rename_i hz
            obtain ⟨b, rfl, hb⟩ := kTup_ok hk r2
            obtain ⟨ws, hw, rw⟩ := orT.mp (oa.ext e2).1
            have r' := r.mono e2.toPExt _ _
            have hp : PExt H2 g2 (upd H2 p0 (.dT (putK ws ks v))) g2 := ow_pext (oa.ext e2) (fun xs z => by rw [hw] at z; cases z) (fun _ _ z => by rw [hw] at z; cases z)
            obtain ⟨f3, pe⟩ := f2.chgU (u := .dT (putK ws ks v)) (o' := .dT (dPut kvs ks d)) q ha (fun xs z => by rw [hw] at z; cases z) (fun _ _ z => by rw [hw] at z; cases z)
              (orT.mpr ⟨_, upd_same, KVR.put (rw.mono hp) (r'.mono hp _ _)⟩)
            exact ⟨p0, _, rfl, DPut.t hw hb (by rw [rw.len]; exact hz), p2 σ _ g2 f3 pe⟩
          · exact p2.elim
        · exact p2.elim
      · exact p1.elim⟩
theorem se_getT (hu : X.A.units + 1 < cLine) (hv : PE X (.Name x px) (tVar i)) (hi : SE X W ix mi) (hs : NoSl ix) : SE X W (.Subscript (.Name x px) ix pos) (eGetT i mi) :=
  PE.imp (pe_dget hu hv hi hs) fun σ H Q ⟨L, S, g, l, w, p⟩ => by
    unfold eGetT at p
    split at p
    · rename_i kvs q
      obtain ⟨a, ha, oa⟩ := l.own i _ q
      refine ⟨_, ha, L, S, g, l, w, Post.bind p fun y S1 v H1 g1 e1 w1 r1 p1 => ?_⟩
      split at p1
      · rename_i ks hk
        obtain ⟨b, rfl, hb⟩ := kTup_ok hk r1
        obtain ⟨ws, hw, rw⟩ := orT.mp (oa.ext e1).1
        cases z : dGet kvs ks with
        | none => rw [z] at p1; exact p1.elim
        | some d =>
          rw [z] at p1
          obtain ⟨v, hv, rv⟩ := rw.get z
          refine ⟨a, v, rfl, ?_, Post.ret p1 w1 rv⟩
          rw [← hv]
          exact DGet.t hw hb
      · exact p1.elim
    · exact p.elim
theorem keys_rep {k : Kx} {H : Hp} {g : G} : ∀ {ws : List (List Key × V)} {bs : List Addr}, IsKeys H ws bs → RepL k H g (ws.map fun kv => .tup (kv.1.map kD)) (bs.map V.ref)
  | _, _, .nil => rfl
  | _, _, .cons h t => by
    refine ⟨_, _, rfl, ⟨_, _, rfl, .inl h, ?_⟩, keys_rep t⟩
    rename_i p b ps bs
    have : ∀ ks : List Key, RepL k H g (ks.map kD) (ks.map kV) := by
      intro ks
      induction ks with
      | nil => rfl
      | cons x ks ih =>
        refine ⟨_, _, rfl, ?_, ih⟩
        cases x with
        | inl i => exact rfl
        | inr x => show kV (.inr x) = V.str ⟨(x.cps.toList).toArray⟩; cases x; rfl
    exact this p.1
theorem sf_keysT (hc : X.calm = true) (hg : Gl X "list") (hm : X.mg "list" = none) (hv : PE X (.Name x px) (tVar i)) : SF X W (.Call (.Name "list" ps) [.Name x px] [] pos) (fKeysT i) :=
  PE.imp (pe_callTy (call_list_dT hc) hg hm rfl (pa_cons hv pa_nil (by rfl)) (by decide) (by decide) (star_cons rfl) (star_any rfl)) fun σ H Q ⟨L, S, g, l, w, p⟩ => by
    unfold fKeysT at p
    split at p
    · rename_i kvs q
      obtain ⟨a, ha, oa⟩ := l.own i _ q
      obtain ⟨ws, hw, rw⟩ := orT.mp oa.1
      refine ⟨_, ha, a, ws, rfl, .inl hw, fun b bs hb hk => ?_⟩
      have e : kvs.map (fun kv => D.tup (kv.1.map kD)) = ws.map fun kv => .tup (kv.1.map kD) := by
        have := congrArg (List.map fun ks : List Key => D.tup (ks.map kD)) rw.fst
        rw [List.map_map, List.map_map] at this
        exact this.symm
      rw [e] at p
      exact f_fin (Ext.refl H g) w (keys_rep hk) p hb
    · exact p.elim
end
end Rf

set_option Elab.async false
set_option linter.all false
set_option maxRecDepth 100000
set_option maxHeartbeats 0
/-! Rf, part 32: tuples of ints of any lengths in their order: the raw comparison, the sort. -/
namespace Rf
open PySem PySem.W PySem.Calls PySem.SeqAt PyProof.Rows L2 TS

/-! ### the order -/
def lexL : List Int → List Int → Bool
  | [], [] => false
  | [], _ :: _ => true
  | _ :: _, [] => false
  | a :: as, b :: bs => if a = b then lexL as bs else decide (a < b)
theorem lexL_irr : ∀ a, lexL a a = false
  | [] => rfl
  | a :: as => by rw [lexL, if_pos rfl]; exact lexL_irr as
theorem lexL_tr : ∀ {a b c : List Int}, lexL a b = true → lexL b c = true → lexL a c = true
  | [], [], _, h, _ => by cases h
  | [], _ :: _, [], _, h => by cases h
  | [], _ :: _, _ :: _, _, _ => rfl
  | _ :: _, [], _, h, _ => by cases h
  | _ :: _, _ :: _, [], _, h => by cases h
  | a :: as, b :: bs, c :: cs, h, h' => by
    rw [lexL] at h h' ⊢
    by_cases e : a = b
    · subst e
      rw [if_pos rfl] at h
      by_cases e2 : a = c
      · rw [if_pos e2] at h' ⊢
        exact lexL_tr h h'
      · rw [if_neg e2] at h' ⊢; exact h'
    · rw [if_neg e] at h
      have h := of_decide_eq_true h
      by_cases e2 : b = c
      · subst e2
        rw [if_neg e]
        exact decide_eq_true h
      · rw [if_neg e2] at h'
        have h' := of_decide_eq_true h'
        rw [if_neg (by omega)]
        exact decide_eq_true (by omega)
theorem lexL_tot : ∀ {a b : List Int}, lexL a b = false → lexL b a = false → a = b
  | [], [], _, _ => rfl
  | [], _ :: _, h, _ => by cases h
  | _ :: _, [], _, h => by cases h
  | a :: as, b :: bs, h, h' => by
    rw [lexL] at h h'
    by_cases e : a = b
    · subst e
      rw [if_pos rfl] at h h'
      rw [lexL_tot h h']
    · rw [if_neg e] at h
      rw [if_neg (fun z => e z.symm)] at h'
      have h := of_decide_eq_false h
      have h' := of_decide_eq_false h'
      omega
/-- how many of L are below -/
def rk (L : List (List Int)) (a : List Int) : Int := ((L.countP fun m => lexL m a : Nat) : Int)
theorem rk_lt {L : List (List Int)} {a b : List Int} (ha : a ∈ L) : decide (rk L a < rk L b) = lexL a b := by
  cases h : lexL a b with
  | true =>
    refine decide_eq_true ?_
    have h1 : L.countP (fun m => lexL m a) < L.countP fun m => lexL m b := by
      have sub : ∀ l : List (List Int), l.countP (fun m => lexL m a) ≤ l.countP fun m => lexL m b := fun l => List.countP_mono_left fun x _ hx => lexL_tr hx h
      obtain ⟨p, q, rfl⟩ := List.append_of_mem ha
      rw [List.countP_append, List.countP_append, List.countP_cons, List.countP_cons]
      have e1 := sub p
      have e2 := sub q
      rw [lexL_irr, h]
      simp only [Bool.false_eq_true, if_false, if_true]
      omega
    show ((_ : Nat) : Int) < ((_ : Nat) : Int)
    omega
  | false =>
    refine decide_eq_false fun z => ?_
    have sub : L.countP (fun m => lexL m b) ≤ L.countP fun m => lexL m a := List.countP_mono_left fun x _ hx => by
      cases h2 : lexL x a with
      | true => rfl
      | false =>
        exfalso
        cases h3 : lexL a x with
        | true => rw [lexL_tr h3 hx] at h; cases h
        | false => rw [lexL_tot h2 h3] at hx; rw [hx] at h; cases h
    have z : ((L.countP fun m => lexL m a : Nat) : Int) < ((L.countP fun m => lexL m b : Nat) : Int) := z
    omega
theorem lexAt_L : ∀ (k i : Nat) (ns ms : List Int), i ≤ ns.length → i ≤ ms.length → k = min (ns.drop i).length (ms.drop i).length →
    Ob.lexAt (fun j => decide (ns.getD j 0 = ms.getD j 0)) (fun j => decide (ns.getD j 0 < ms.getD j 0)) (decide (ns.length < ms.length)) i k = lexL (ns.drop i) (ms.drop i)
  | 0, i, ns, ms, hi, hi2, h => by
    rw [Ob.lexAt_zero]
    rw [List.length_drop, List.length_drop] at h
    rcases Nat.lt_or_ge i ns.length with a | a
    · have b : ms.length ≤ i := by omega
      rw [List.drop_of_length_le b, decide_eq_false (by omega)]
      cases q : ns.drop i with
      | nil => rfl
      | cons x r => rfl
    · rw [List.drop_of_length_le a]
      rcases Nat.lt_or_ge i ms.length with b | b
      · rw [decide_eq_true (by omega)]
        cases q : ms.drop i with
        | nil => have := congrArg List.length q; rw [List.length_drop, List.length_nil] at this; omega
        | cons x r => rfl
      · rw [List.drop_of_length_le b]
        exact decide_eq_false (by omega)
  | k + 1, i, ns, ms, hi, hi2, h => by
    rw [List.length_drop, List.length_drop] at h
    have a : i < ns.length := by omega
    have b : i < ms.length := by omega
    have ih := lexAt_L k (i + 1) ns ms (by omega) (by omega) (by rw [List.length_drop, List.length_drop]; omega)
    rw [Ob.lexAt_succ, ih, List.drop_eq_getElem_cons a, List.drop_eq_getElem_cons b, lexL]
    have e1 : ns.getD i 0 = ns[i] := by simp [a]
    have e2 : ms.getD i 0 = ms[i] := by simp [b]
    rw [e1, e2]
    by_cases e : ns[i] = ms[i]
    · rw [if_pos e, decide_eq_true e, if_pos rfl]
    · rw [if_neg e, decide_eq_false e, if_neg Bool.false_ne_true]
theorem lexAt_0 (ns ms : List Int) : Ob.lexAt (fun j => decide (ns.getD j 0 = ms.getD j 0)) (fun j => decide (ns.getD j 0 < ms.getD j 0)) (decide (ns.length < ms.length)) 0 (min ns.length ms.length) = lexL ns ms :=
  lexAt_L _ 0 ns ms (Nat.zero_le _) (Nat.zero_le _) rfl

/-! ### the raw comparison -/
section
variable {prog : Program} {w : World} {A : Around} {E : Value → Shared → Prop} {s : Shared}
/-- what tuple.__lt__ says of two tuples of ints -/
structure TwoT (s : Shared) (l b : Addr) (xs ys : Array Value) (ns ms : List Int) : Prop where
  hl : s.heap.IsTuple l xs
  hb : s.heap.IsTuple b ys
  i1 : IntsAre xs.toList ns
  i2 : IntsAre ys.toList ms
theorem TwoT.at1 {l b : Addr} {xs ys : Array Value} {ns ms : List Int} (h : TwoT s l b xs ys ns ms) : ∀ j (h1 : j < xs.size), ∃ t, xs[j] = .int (ns.getD j 0) t :=
  fun j h1 => PyProof.Rows.IntsAre.int_at h.i1 _ _ (by simp [h1])
theorem TwoT.at2 {l b : Addr} {xs ys : Array Value} {ns ms : List Int} (h : TwoT s l b xs ys ns ms) : ∀ j (h1 : j < ys.size), ∃ t, ys[j] = .int (ms.getD j 0) t :=
  fun j h1 => PyProof.Rows.IntsAre.int_at h.i2 _ _ (by simp [h1])
theorem beq_dec (a b : Int) : (a == b) = decide (a = b) := by
  by_cases q : a = b
  · rw [decide_eq_true q]; exact beq_iff_eq.mpr q
  · rw [decide_eq_false q]; exact beq_eq_false_iff_ne.mpr q
theorem rc_lt {l b : Addr} {xs ys : Array Value} {ns ms : List Int} (h : TwoT s l b xs ys ns ms) (hu : A.units < cLine) : Ob.RcOp .Lt A s (.ref l) (.ref b) (lexL ns ms) := by
  have R := Ob.RcOp.tuples_lt (A := A) (s := s) (e := fun j => decide (ns.getD j 0 = ms.getD j 0)) (r := fun j => decide (ns.getD j 0 < ms.getD j 0)) h.hl h.hb hu (fun j h1 h2 => by
    obtain ⟨t, et⟩ := h.at1 j h1
    obtain ⟨t', et'⟩ := h.at2 j h2
    rw [et, et', ← beq_dec]
    exact SeqAt.EqAt.int_int _ _ _ _) (fun j h1 h2 _ => by
    obtain ⟨t, et⟩ := h.at1 j h1
    obtain ⟨t', et'⟩ := h.at2 j h2
    rw [et, et']
    exact Ob.RcOp.lt_int _ _ _ _)
  have e1 : xs.size = ns.length := by have := h.i1.length; rwa [Array.length_toList] at this
  have e2 : ys.size = ms.length := by have := h.i2.length; rwa [Array.length_toList] at this
  rw [e1, e2, lexAt_0] at R
  exact R
/-- of any kind of keys -/
theorem key_gen {l b : Addr} {xs ys : Array Value} {ns ms : List Int} (h : TwoT s l b xs ys ns ms) (hu : A.units < cLine) {Q : Bool → Shared → Prop} (hq : Q (lexL ns ms) s) : wpAny (model prog w) A (keyLt' general' (.ref l) (.ref b)) Q E s := by
  show wpAny (model prog w) A (oneLt' false (.ref l) (.ref b)) Q E s
  exact kat_one _ _ (rc_lt h hu prog w E _ hq)
theorem key_one {l b : Addr} {xs ys : Array Value} {ns ms : List Int} (h : TwoT s l b xs ys ns ms) (hu : A.units < cLine) {Q : Bool → Shared → Prop} (hq : Q (lexL ns ms) s) : wpAny (model prog w) A (keyLt' oneType' (.ref l) (.ref b)) Q E s := by
  rw [keyLt'_oneType, oneLt'_eq, if_pos rfl]
  obtain ⟨⟨cls, dd, data, sl⟩, ho, hc, n, hd⟩ := id h.hl
  obtain ⟨⟨cls2, dd2, data2, sl2⟩, ho2, hc2, n2, hd2⟩ := id h.hb
  simp only at hc hd hc2 hd2
  subst hc hd hc2 hd2
  refine wpAny_bind (wpAny_cRoomFor hu ?_)
  refine wpAny_bind (wpAny_callSpecialIfBound?_slot ⟨_, ho, rfl⟩ F.slot_tuple_lt (call_meets F.slot_tuple_lt ⟨_, ho, rfl⟩ F.entry_tuple_lt (F.args_tuple_lt_2 _ _)
    (Ob.tuple_ltAt l b xs ys n n2 dd dd2 sl sl2 (fun j => decide (ns.getD j 0 = ms.getD j 0)) (fun j => decide (ns.getD j 0 < ms.getD j 0))) ⟨ho, ho2, (fun j h1 h2 => by
    obtain ⟨t, et⟩ := h.at1 j h1
    obtain ⟨t', et'⟩ := h.at2 j h2
    rw [et, et', ← beq_dec]
    exact SeqAt.EqAt.int_int _ _ _ _), (fun j h1 h2 _ => by
    obtain ⟨t, et⟩ := h.at1 j h1
    obtain ⟨t', et'⟩ := h.at2 j h2
    rw [et, et']
    exact Ob.RcOp.lt_int _ _ _ _), ?_⟩))
  have e1 : xs.size = ns.length := by have := h.i1.length; rwa [Array.length_toList] at this
  have e2 : ys.size = ms.length := by have := h.i2.length; rwa [Array.length_toList] at this
  rw [e1, e2, lexAt_0]
  show wpAny (model prog w) A (truthOfDropped (.bool (lexL ns ms))) Q E s
  exact wpAny_truthy_bool hq
/-- the sort's own way through two tuples -/
theorem lex_any {b : Bool} {Q : Bool → Shared → Prop} {xs ys : List Value} {ns ms : List Int} (i : Nat) (hx : IntsAre xs ns) (hy : IntsAre ys ms) (h : Q (lexL ns ms) s) : KatLex prog w A b (decide (xs.length < ys.length)) Q (xs.zip ys) i s := by
  induction hx generalizing ys ms i with
  | nil =>
    cases hy with
    | nil => exact kat_nil h
    | cons q u hy =>
      refine kat_nil ?_
      rw [decide_eq_true (by rw [List.length_cons]; exact Nat.succ_pos _)]
      exact h
  | @cons p t xs ns hx ih =>
    cases hy with
    | nil =>
      refine kat_nil ?_
      rw [decide_eq_false (by rw [List.length_nil]; exact Nat.not_lt_zero _)]
      exact h
    | @cons q u ys ms hy =>
      have e0 : decide ((Value.int p t :: xs).length < (Value.int q u :: ys).length) = decide (xs.length < ys.length) := by
        rw [List.length_cons, List.length_cons]
        exact decide_eq_decide.mpr (by omega)
      rw [e0]
      refine kat_cons (wpAny_eqBool_int ?_)
      rw [lexL] at h
      by_cases e : p = q
      · subst e
        rw [beq_self_eq_true]
        rw [if_pos rfl] at h
        refine kat_yes ?_
        first
          | exact ih (i + 1) hy h
          | exact ih _ _ (i + 1) hy h
      · rw [if_neg e] at h
        rw [beq_eq_false_iff_ne.mpr e]
        refine kat_no ?_
        by_cases hb : (b && i == 0) = true
        · rw [hb]
          exact kat_lt_int h
        · rw [Bool.eq_false_iff.mpr hb]
          exact kat_one _ _ (PyProof.Rows.lt_int h)
theorem key_tup {bb : Bool} {l b : Addr} {xs ys : Array Value} {ns ms : List Int} (h : TwoT s l b xs ys ns ms) {Q : Bool → Shared → Prop} (hq : Q (lexL ns ms) s) : wpAny (model prog w) A (keyLt' (tuples' bb) (.ref l) (.ref b)) Q E s := by
  obtain ⟨⟨cls, dd, data, sl⟩, ho, hc, n, hd⟩ := id h.hl
  obtain ⟨⟨cls2, dd2, data2, sl2⟩, ho2, hc2, n2, hd2⟩ := id h.hb
  simp only at hc hd hc2 hd2
  subst hc hd hc2 hd2
  refine kat_lt ho rfl ho2 rfl ?_
  have := lex_any (prog := prog) (w := w) (A := A) (b := bb) 0 h.i1 h.i2 hq
  rwa [Array.length_toList, Array.length_toList] at this
end
end Rf

set_option Elab.async false
set_option linter.all false
set_option maxRecDepth 100000
set_option maxHeartbeats 0
/-! Rf, part 33: sorted() and min() of lists of tuples of ints. -/
namespace Rf
open PySem PySem.W PySem.Calls PySem.SeqAt PyProof.Rows L2 TS

section
variable {prog : Program} {w : World} {A : Around} {E : Value → Shared → Prop} {s : Shared} {L : List (List Int)}
def IntT (h : Heap) (vs : List Value) : Prop := ∀ v ∈ vs, ∃ ns, TupInts h v ns
def ffst (h : Heap) (v : Value) : Option Value := match v with
  | .ref a => match h.get? a with
    | some o => match o.data with
      | .seq xs _ => xs[0]?
      | _ => none
    | none => none
  | _ => none
theorem firsts_any : ∀ (vs : List Value) {Q : List (Option Value) → Shared → Prop}, IntT s.heap vs → Q (vs.map (ffst s.heap)) s → wpAny (model prog w) A (vs.mapM firstOfTuple') Q E s
  | [], _, _, h => by rw [List.mapM_nil]; exact wpAny_pure h
  | v :: vs, Q, x, h => by
    obtain ⟨ns, a, xs, rfl, ⟨o, ho, hc, n, hd⟩, i⟩ := x v List.mem_cons_self
    have e0 : ffst s.heap (.ref a) = xs[0]? := by simp only [ffst, ho, hd]
    rw [List.map_cons, e0] at h
    rw [List.mapM_cons]
    refine wpAny_bind ?_
    rw [kas_first_eq]
    refine wpAny_bind (Looks.here (show Looks (model prog w) s.heap (typeOf (.ref a)) o.cls from (Looks.ld ho).andThen .now) ?_)
    rw [hc, if_neg (by first | decide | simp)]
    refine wpAny_bind (listItems_at ho hd (wpAny_pure ?_))
    exact wpAny_bind (firsts_any vs (Q := fun bs s' => wpAny (model prog w) A (pure (xs[0]? :: bs)) Q E s') (fun u hu => x u (List.mem_cons_of_mem _ hu)) (wpAny_pure h))
theorem firsts_ne : ∀ vs : List Value, IntT s.heap vs → (∀ v ∈ vs, ffst s.heap v ≠ none) → ∃ fs, KatTups s.heap vs fs ∧ fs.length = vs.length ∧ ∀ f ∈ fs, ∃ n t, f = Value.int n t
  | [], _, _ => ⟨[], KatTups.nil, rfl, fun f hf => by cases hf⟩
  | v :: vs, x, hn => by
    obtain ⟨fs, k, hl, hi⟩ := firsts_ne vs (fun u hu => x u (List.mem_cons_of_mem _ hu)) fun u hu => hn u (List.mem_cons_of_mem _ hu)
    obtain ⟨ns, a, xs, rfl, ⟨o, ho, hc, n, hd⟩, i⟩ := x v List.mem_cons_self
    have e0 : ffst s.heap (.ref a) = xs[0]? := by simp only [ffst, ho, hd]
    have hne := hn (.ref a) List.mem_cons_self
    rw [e0] at hne
    cases q : xs[0]? with
    | none => exact absurd q hne
    | some f =>
      refine ⟨f :: fs, KatTups.cons ho hc hd q k, by simp [hl], fun g hg => ?_⟩
      rcases List.mem_cons.mp hg with rfl | hg
      · obtain ⟨t, ht⟩ := PyProof.Rows.IntsAre.int_at i 0 g (by simpa using q)
        exact ⟨_, t, ht⟩
      · exact hi g hg
/-- the rank of a value -/
def rkV (L : List (List Int)) (h : Heap) (v : Value) : Int := rk L (intsOf h v)
theorem cmp_of {κ : SortKind} {vs : List Value} {r : Value → Int} (x : IntT s.heap vs) (hr : ∀ v ∈ vs, ∀ ns, TupInts s.heap v ns → r v = rk L ns ∧ ns ∈ L)
    (hk : ∀ (l b : Addr) (xs ys : Array Value) (ns ms : List Int), TwoT s l b xs ys ns ms → ∀ (Q : Bool → Shared → Prop) (E : Value → Shared → Prop), Q (lexL ns ms) s → wpAny (model prog w) A (keyLt' κ (.ref l) (.ref b)) Q E s) : Cmp prog w A s κ (pairsOf vs) r := by
  intro p q hp hq Q' E' hQ
  rw [pairsOf_toList] at hp hq
  obtain ⟨ns, tp⟩ := x _ (mem_zip_self hp).2
  obtain ⟨ms, tq⟩ := x _ (mem_zip_self hq).2
  obtain ⟨e1, m1⟩ := hr _ (mem_zip_self hp).2 _ tp
  obtain ⟨e2, _⟩ := hr _ (mem_zip_self hq).2 _ tq
  rw [e1, e2, rk_lt m1] at hQ
  obtain ⟨a, xs, z1, t1, i1⟩ := tp
  obtain ⟨b, ys, z2, t2, i2⟩ := tq
  rw [z1, z2]
  exact hk a b xs ys ns ms ⟨t1, t2, i1, i2⟩ Q' E' hQ
theorem kind_any {vs : List Value} (h2 : 2 ≤ vs.length) (x : IntT s.heap vs) (r : Value → Int) (hr : ∀ v ∈ vs, ∀ ns, TupInts s.heap v ns → r v = rk L ns ∧ ns ∈ L) (hu : A.units < cLine) (Q : SortKind → Shared → Prop)
    (h : ∀ κ, Cmp prog w A s κ (pairsOf vs) r → Q κ s) : wpAny (model prog w) A (keyKind' vs.toArray) Q E s := by
  by_cases hall : ∀ v ∈ vs, ffst s.heap v ≠ none
  · obtain ⟨fs, k, hl, hi⟩ := firsts_ne vs x hall
    refine kat_kind (T := Value.type "int") k (by omega) (fun f hf => ?_) rfl (h _ (cmp_of x hr fun l b xs ys ns ms t Q E hq => key_tup t hq))
    obtain ⟨n, t, rfl⟩ := hi f hf
    exact Looks.of_pure rfl
  · rw [kat_kind_eq, List.mapM_toArray, map_eq_pure_bind]
    refine wpAny_bind (wpAny_bind (firsts_any vs x (wpAny_pure ?_)))
    have hall2 : ¬ (((vs.map (ffst s.heap)).toArray.all fun x => x.isSome) = true) := by
      rw [List.all_toArray, List.all_map, List.all_eq_true]
      intro z
      refine hall fun v hv e => ?_
      have := z v hv
      rw [Function.comp_apply, e] at this
      cases this
    rw [if_neg hall2]
    by_cases hf : (((vs.map (ffst s.heap)).toArray[0]?).bind id).isSome = true
    · rw [if_pos hf]
      exact wpAny_pure (h _ (cmp_of x hr fun l b xs ys ns ms t Q E hq => key_gen t hu hq))
    · rw [if_neg hf]
      refine wpAny_bind ?_
      rw [oneTypeOnly'_eq, List.mapM_toArray, map_eq_pure_bind]
      refine wpAny_bind (wpAny_bind (kas_mapM (r := Value.type "tuple") _ (fun v hv Q' hq => ?_) (wpAny_pure ?_)))
      · obtain ⟨ns, a, xs, rfl, ⟨o, ho, hc, n, hd⟩, i⟩ := x v hv
        refine Looks.here (show Looks (model prog w) s.heap (typeOf (.ref a)) o.cls from (Looks.ld ho).andThen .now) ?_
        rw [hc]
        exact hq
      · have h0 : (List.map (fun _ => Value.type "tuple") vs).toArray[0]? = some (Value.type "tuple") := by
          cases vs with
          | nil => simp at h2
          | cons v vs => simp
        have hall3 : ((List.map (fun _ => Value.type "tuple") vs).toArray.all fun x => x == Value.type "tuple") = true := by
          simp only [List.all_toArray, List.all_map, List.all_eq_true]
          intro _ _
          rfl
        rw [h0]
        simp only [hall3, if_true]
        refine wpAny_pure ?_
        rw [if_pos (show (some (Value.type "tuple")).isSome = true from rfl)]
        exact wpAny_pure (h _ (cmp_of x hr fun l b xs ys ns ms t Q E hq => key_one t hu hq))
/-- list.sort of a list of tuples of ints -/
theorem sort_intT {a : Addr} {vs : List Value} {n : Nat} {P : PySem.Fin → Shared → Prop} (ho : s.heap.get? a = some (seqObj "list" vs.toArray n)) (h64 : vs.length < 64) (x : IntT s.heap vs) (hu : A.units < cLine)
    (h : ∀ out : Array Value, out.toList.Perm vs → out.toList.Pairwise (fun u v => lexL (intsOf s.heap v) (intsOf s.heap u) = false) → P (.done (.ret .none)) { s with heap := sortedHeap s.heap a vs out }) :
    wpAny (model prog w) A (Builtin.«list.sort» ⟨[.ref a], []⟩) P E s := by
  have keep : ∀ b o, s.heap.get? b = some o → o.cls = .type "tuple" → (midHeap s.heap a vs).get? b = some o := fun b o e hc => by
    refine midHeap_old ?_ e
    rintro rfl
    rw [ho] at e
    have e' : seqObj "list" vs.toArray n = o := Option.some.inj e
    rw [← e'] at hc
    have c' : Value.type "list" = Value.type "tuple" := hc
    injection c' with c''
    exact absurd c'' (by decide)
  have x2 : IntT (midHeap s.heap a vs) vs := fun v hv => by
    obtain ⟨ns, t⟩ := x v hv
    exact ⟨ns, t.keeps keep⟩
  refine SK.plain_sort (r := rkV (vs.map (intsOf s.heap)) s.heap) ho h64 (fun h2 Q hQ => ?_) fun ps out h1 h2 h3 => ?_
  · refine kind_any (L := vs.map (intsOf s.heap)) (s := { s with heap := midHeap s.heap a vs }) h2 x2 _ (fun v hv ns t => ?_) hu Q hQ
    obtain ⟨ns0, t0⟩ := x v hv
    have e : ns = ns0 := t.ints.symm.trans (t0.keeps keep).ints
    rw [e]
    refine ⟨by rw [rkV, t0.ints], List.mem_map.mpr ⟨v, hv, t0.ints⟩⟩
  · obtain ⟨p, o⟩ := out_rank h1 h2 h3
    refine h out p (List.Pairwise.imp_of_mem (fun {u v} hu' hv' z => ?_) o)
    have hv2 : v ∈ vs := p.mem_iff.mp hv'
    have q := rk_lt (L := vs.map (intsOf s.heap)) (a := intsOf s.heap v) (b := intsOf s.heap u) (List.mem_map.mpr ⟨v, hv2, rfl⟩)
    rw [← q]
    have z : rk (vs.map (intsOf s.heap)) (intsOf s.heap u) ≤ rk (vs.map (intsOf s.heap)) (intsOf s.heap v) := z
    exact decide_eq_false (by omega)
/-- sorted(xs) of a list of tuples of ints -/
theorem sorted_intT {l : Addr} {vs : List Value} {Q : Value → Shared → Prop} (hl : s.heap.IsList l vs.toArray) (h64 : vs.length < 64) (x : IntT s.heap vs) (hu : A.in1.in1.units < cLine)
    (h : ∀ out : Array Value, out.toList.Perm vs → out.toList.Pairwise (fun u v => lexL (intsOf s.heap v) (intsOf s.heap u) = false) → Q (.ref (s.heap.objs.size + 1)) { s with heap := sortedAll s.heap vs out }) :
    wpAny (model prog w) A (call (.builtin "sorted") [.ref l]) Q E s := by
  refine Calls.call_function_entry kind_sorted plain_sorted entry_sorted (args_sorted1 _) ?_
  unfold Builtin.«sorted»
  refine wpAny_bind (m := checkCount "sorted" 1 1 _) (wpAny_pure ?_)
  refine wpAny_bind (collect_list hl ?_ (by rw [sizeLine_eq]; omega))
  refine wpAny_bind (wpAny_newList ?_ (by rw [sizeLine_eq]; omega))
  have hsz : ((s.heap.push (seqObj "list" #[] 0)).update s.heap.objs.size (Obj.mapSeq (· ++ vs.toArray))).objs.size = s.heap.objs.size + 1 := by
    rw [Heap.size_update, size_push']
  have hoL : (((s.heap.push (seqObj "list" #[] 0)).update s.heap.objs.size (Obj.mapSeq (· ++ vs.toArray))).push (seqObj "list" vs.toArray 0)).get? (s.heap.objs.size + 1) = some (seqObj "list" vs.toArray 0) := by
    rw [← hsz]; exact Heap.get?_push_size _ rfl
  have keep : ∀ b o, s.heap.get? b = some o → o.cls = .type "tuple" → (((s.heap.push (seqObj "list" #[] 0)).update s.heap.objs.size (Obj.mapSeq (· ++ vs.toArray))).push (seqObj "list" vs.toArray 0)).get? b = some o := fun b o q _ => by
    have hlt : b < s.heap.objs.size := Heap.lt_size q
    rw [Heap.get?_push_ne _ _ _ (by rw [hsz]; exact Nat.ne_of_lt (Nat.lt_succ_of_lt hlt)), Heap.get?_update_ne _ _ _ _ (Nat.ne_of_lt hlt), Heap.get?_push_ne _ _ _ (Nat.ne_of_lt hlt)]
    exact q
  show wpAny _ _ _ _ _ { s with heap := ((s.heap.push (seqObj "list" #[] 0)).update s.heap.objs.size (Obj.mapSeq (· ++ vs.toArray))).push (seqObj "list" vs.toArray 0) }
  rw [hsz]
  refine wpAny_bind (wpAny_holding (wpAny_call_entry slot_list_sort ⟨_, hoL, rfl⟩ entry_list_sort (sort_intT hoL h64 (fun v hv => ?_) hu fun out a1 a2 => ⟨_, rfl, ?_⟩) (args_list_sort _)))
  · obtain ⟨ns, t⟩ := x v hv
    exact ⟨ns, t.keeps keep⟩
  · refine wpAny_pure ⟨_, rfl, h out a1 (List.Pairwise.imp_of_mem (fun {u v} hu' hv' z => ?_) a2)⟩
    obtain ⟨n1, t1⟩ := x u (a1.mem_iff.mp hu')
    obtain ⟨n2, t2⟩ := x v (a1.mem_iff.mp hv')
    rw [(t1.keeps keep).ints, (t2.keeps keep).ints] at z
    rw [t1.ints, t2.ints]
    exact z
end
end Rf

set_option Elab.async false
set_option linter.all false
set_option maxRecDepth 100000
set_option maxHeartbeats 0
/-! Rf, part 34: min() of lists of tuples of ints; sorted(), min() as the layer's calls. -/
namespace Rf
open PySem PySem.W PySem.Calls PySem.SeqAt PyProof.Rows L2 TS

section
variable {prog : Program} {w : World} {A : Around} {R : Result → Shared → Prop} {I : Addr} {fp wr : List Addr} {n : Nat} {P : Nat → Value → Prop} {St : Nat → Heap → Prop} {h₀ : Heap} {pr : Addr → Prop}
/-- what is protected stands as in h₀ -/
def Kept (h₀ : Heap) (pr : Addr → Prop) (h : Heap) : Prop := ∀ b o, pr b → h₀.get? b = some o → h.get? b = some o
/-- the comparison, where the protected stands -/
def CmpAt (prog : Program) (w : World) (A : Around) (h₀ : Heap) (pr : Addr → Prop) (P : Nat → Value → Prop) (bt : Nat → Nat → Bool) : Prop :=
  ∀ i j vi vj (s : Shared) (Q : Value → Shared → Prop) (E : Value → Shared → Prop), Kept h₀ pr s.heap → P i vi → P j vj → Q (.bool (bt i j)) s → wpAny (model prog w) A (richCompare .Lt vi vj) Q E s
theorem min_loopT (W : Walks prog w A.in1 I fp wr n P St) (bt : Nat → Nat → Bool) (hcmp : CmpAt prog w A.in1 h₀ pr P bt) (S : Addr) (hSf : S ∉ fp) (hpw : ∀ b ∈ wr, ¬ pr b) (hpS : ¬ pr S) :
    ∀ (k j : Nat) (s : Shared) (vb : Value) (c : Nat), n - (j + 1) = k → j + 1 ≤ n → St (j + 1) s.heap → Kept h₀ pr s.heap → P (argBest bt j) vb →
    s.heap.get? S = some { cls := .type "list", dict := none, data := .seq #[vb, vb] c, slots := #[] } →
    (∀ v h' tk, P (argBest bt (n - 1)) v → (∀ b o, b ∉ wr → b ≠ S → s.heap.get? b = some o → h'.get? b = some o) → R (.ok (.ret v)) { s with heap := h', toks := tk }) →
    codeAny (model prog w) A (.builtin "min.loop" ⟨[.ref I, .none, .ref S], []⟩) R s := by
  have hSw : S ∉ wr := fun h => hSf (W.sub _ h)
  have hname : (toString "min" ++ toString ".loop" : String) = "min.loop" := by decide
  intro k
  induction k with
  | zero =>
    intro j s vb c hk hj hst hK hPb hS hR
    have hin : j + 1 = n := by omega
    refine codeAny_builtin PySem.F.entry_min_loop ?_
    rw [Around.under_plainId PySem.F.plain_min_loop _]
    show wpAny _ A.in1 (seqItems? (.ref S) >>= _) _ _ s
    refine wpAny_bind (wpAny_seqItems hS rfl ?_)
    show wpAny _ A.in1 (tryCatch (pyNext (.ref I)) _ >>= _) _ _ s
    refine wpAny_bind (wpAny_tryCatch (W.done s _ _ (hin ▸ hst) fun h' tk hk' => ?_))
    have hS' := hk' S _ hSw hS
    show wpAny _ A.in1 (updateSeq S (fun _ => #[]) >>= _) _ _ _
    refine wpAny_bind ?_
    refine wpAny_updateSeq hS' rfl (wpAny_bind (wpAny_letGo (wpAny_pure ?_)))
    refine hR vb _ tk (by rw [← hin]; exact hPb) fun b o hbw hbS e => (Heap.get?_update_other _ _ (Ne.symm hbS)).trans (hk' b o hbw e)
  | succ k ih =>
    intro j s vb c hk hj hst hK hPb hS hR
    have hlt : j + 1 < n := by omega
    refine codeAny_builtin PySem.F.entry_min_loop ?_
    rw [Around.under_plainId PySem.F.plain_min_loop _]
    show wpAny _ A.in1 (seqItems? (.ref S) >>= _) _ _ s
    refine wpAny_bind (wpAny_seqItems hS rfl ?_)
    show wpAny _ A.in1 (tryCatch (pyNext (.ref I)) _ >>= _) _ _ s
    refine wpAny_bind (wpAny_tryCatch (W.item (j + 1) s _ _ hlt hst fun v h' tk hP hst' hk' => ?_))
    have hS' := hk' S _ hSw hS
    have hK' : Kept h₀ pr h' := fun b o hb e => hk' b o (fun z => hpw b z hb) (hK b o hb e)
    show wpAny _ A.in1 (tryCatch (holding [v, v] (richCompare .Lt v vb >>= _)) _ >>= _) _ _ _
    refine wpAny_bind (wpAny_tryCatch (wpAny_holding (wpAny_bind (hcmp (j + 1) (argBest bt j) v vb _ _ _ hK' hP hPb ?_))))
    refine wpAny_bind (wpAny_holding (wpAny_truthy_bool ?_))
    refine wpAny_bind (wpAny_letGo (wpAny_pure ?_))
    cases hb : bt (j + 1) (argBest bt j) with
    | true =>
      simp only [if_true]
      refine wpAny_bind ?_
      refine wpAny_updateSeq hS' rfl (wpAny_bind (wpAny_letGo ?_))
      rw [hname]
      refine wpAny_pure ⟨plainId_quiet PySem.F.plain_min_loop _, ih (j + 1) _ v _ (by omega) hlt (W.frame _ _ _ hst' fun b hbf o e => ?_) (fun b o hb' e => ?_) (by simp only [argBest, hb, if_true]; exact hP) (Heap.get?_update_self _ hS' rfl)
        fun v' h'' tk'' hP' hk'' => ?_⟩
      · exact (Heap.get?_update_other _ _ (fun h : S = b => hSf (by rw [h]; exact hbf))).trans e
      · exact (Heap.get?_update_other _ _ (fun h : S = b => hpS (by rw [h]; exact hb'))).trans (hK' b o hb' e)
      · exact hR v' h'' tk'' hP' fun b o hbw hbS e => hk'' b o hbw hbS ((Heap.get?_update_other _ _ (Ne.symm hbS)).trans (hk' b o hbw e))
    | false =>
      simp only [Bool.false_eq_true, if_false]
      refine wpAny_bind (wpAny_letGo ?_)
      rw [hname]
      refine wpAny_pure ⟨plainId_quiet PySem.F.plain_min_loop _, ih (j + 1) _ vb c (by omega) hlt hst' hK' (by simp only [argBest, hb, Bool.false_eq_true, if_false]; exact hPb) hS' fun v' h'' tk'' hP' hk'' => ?_⟩
      exact hR v' h'' tk'' hP' fun b o hbw hbS e => hk'' b o hbw hbS (hk' b o hbw e)
theorem min_firstT (W : Walks prog w A.in1 I fp wr n P St) (bt : Nat → Nat → Bool) (hcmp : CmpAt prog w A.in1 h₀ pr P bt) (S : Addr) (hSf : S ∉ fp) (hpw : ∀ b ∈ wr, ¬ pr b) (hpS : ¬ pr S) (hn : 0 < n) {s : Shared} {c : Nat} (hst : St 0 s.heap) (hK : Kept h₀ pr s.heap)
    (hS : s.heap.get? S = some { cls := .type "list", dict := none, data := .seq #[] c, slots := #[] })
    (hR : ∀ v h' tk, P (argBest bt (n - 1)) v → (∀ b o, b ∉ wr → b ≠ S → s.heap.get? b = some o → h'.get? b = some o) → R (.ok (.ret v)) { s with heap := h', toks := tk }) :
    codeAny (model prog w) A (.builtin "min.loop" ⟨[.ref I, .none, .ref S], []⟩) R s := by
  have hSw : S ∉ wr := fun h => hSf (W.sub _ h)
  have hname : (toString "min" ++ toString ".loop" : String) = "min.loop" := by decide
  refine codeAny_builtin PySem.F.entry_min_loop ?_
  rw [Around.under_plainId PySem.F.plain_min_loop _]
  show wpAny _ A.in1 (seqItems? (.ref S) >>= _) _ _ s
  refine wpAny_bind (wpAny_seqItems hS rfl ?_)
  show wpAny _ A.in1 (tryCatch (pyNext (.ref I)) _ >>= _) _ _ s
  refine wpAny_bind (wpAny_tryCatch (W.item 0 s _ _ hn hst fun v h' tk hP hst' hk' => ?_))
  have hS' := hk' S _ hSw hS
  have hK' : Kept h₀ pr h' := fun b o hb e => hk' b o (fun z => hpw b z hb) (hK b o hb e)
  show wpAny _ A.in1 (updateSeq S (fun _ => #[v, v]) >>= _) _ _ _
  refine wpAny_bind ?_
  refine wpAny_updateSeq hS' rfl ?_
  rw [hname]
  refine wpAny_pure ⟨plainId_quiet PySem.F.plain_min_loop _, min_loopT W bt hcmp S hSf hpw hpS _ 0 _ v _ rfl hn (W.frame _ _ _ hst' fun b hbf o e => ?_) (fun b o hb' e => ?_) hP (Heap.get?_update_self _ hS' rfl) fun v' h'' tk'' hP' hk'' => ?_⟩
  · exact (Heap.get?_update_other _ _ (fun h : S = b => hSf (by rw [h]; exact hbf))).trans e
  · exact (Heap.get?_update_other _ _ (fun h : S = b => hpS (by rw [h]; exact hb'))).trans (hK' b o hb' e)
  · exact hR v' h'' tk'' hP' fun b o hbw hbS e => hk'' b o hbw hbS ((Heap.get?_update_other _ _ (Ne.symm hbS)).trans (hk' b o hbw e))
end
section
variable {prog : Program} {w : World} {A : Around} {E : Value → Shared → Prop} {s : Shared}
theorem call_minT {x : Value} {pr : Addr → Prop} {Q : Value → Shared → Prop} (hp : ∀ b, pr b → b < s.heap.objs.size)
    (h : wpAny (model prog w) A.in1 (pyIter x) (fun it s₂ => ∃ I fp wr n P St bt, it = .ref I ∧ Walks prog w A.in1 I fp wr n P St ∧ St 0 s₂.heap ∧ (∀ b ∈ fp, b < s₂.heap.objs.size) ∧ 0 < n ∧ CmpAt prog w A.in1 s.heap pr P bt ∧ (∀ b ∈ wr, ¬ pr b) ∧ Kept s.heap pr s₂.heap ∧
      s.heap.objs.size ≤ s₂.heap.objs.size ∧ ∀ v h' tk, P (argBest bt (n - 1)) v → (∀ b o, b ∉ wr → s₂.heap.get? b = some o → h'.get? b = some o) → Q v { s₂ with heap := h', toks := tk }) E s) :
    wpAny (model prog w) A (call (.builtin "min") [x]) Q E s := by
  have hname : (toString "min" ++ toString ".loop" : String) = "min.loop" := by decide
  refine call_function_tree PySem.F.kind_min PySem.F.plain_min PySem.F.entry_min (PySem.F.args_min1 _) ?_
  show wpAny _ A.in1 (Builtin.Builtins.bindParams "min" ["key", "default"] 0 ⟨[], []⟩ >>= _) _ _ s
  refine wpAny_bind (wpAny_of_eq (show Builtin.Builtins.bindParams "min" ["key", "default"] 0 ⟨[], []⟩ = pure [none, none] from rfl) ?_)
  refine wpAny_bind (wpAny_pure ?_)
  refine wpAny_bind (wpAny_mono h (fun it s₂ h₂ => ?_) fun _ _ e => e)
  obtain ⟨I, fp, wr, n, P, St, bt, rfl, W, hst, hfp, hn, hcmp, hpw, hK, hge, hQ⟩ := h₂
  refine wpAny_bind (wpAny_newObj_type ?_)
  have hSf : s₂.heap.objs.size ∉ fp := fun hm => Nat.lt_irrefl _ (hfp _ hm)
  have hpS : ¬ pr s₂.heap.objs.size := fun z => Nat.lt_irrefl _ (Nat.lt_of_lt_of_le (hp _ z) hge)
  rw [hname]
  refine wpAny_pure ⟨plainId_quiet PySem.F.plain_min_loop _, min_firstT W bt hcmp s₂.heap.objs.size hSf hpw hpS hn (W.frame _ _ _ hst fun b _ o e => Heap.get?_push_of_some _ e) (fun b o hb e => Heap.get?_push_of_some _ (hK b o hb e)) (Heap.get?_push_size _ rfl) fun v h' tk hP hk => ?_⟩
  exact hQ v h' tk hP fun b o hbw e => hk b o hbw (Nat.ne_of_lt (Heap.lt_size e)) (Heap.get?_push_of_some _ e)
theorem argBest_lex {vals : Nat → List Int} : ∀ k, (argBest (fun i j => lexL (vals i) (vals j)) k ≤ k) ∧ ∀ j, j ≤ k → lexL (vals j) (vals (argBest (fun i j => lexL (vals i) (vals j)) k)) = false
  | 0 => ⟨Nat.le_refl _, fun j hj => by
    have : j = 0 := by omega
    subst this
    exact lexL_irr _⟩
  | k + 1 => by
    obtain ⟨h1, h2⟩ := argBest_lex (vals := vals) k
    rw [argBest]
    cases hb : lexL (vals (k + 1)) (vals (argBest (fun i j => lexL (vals i) (vals j)) k)) with
    | true =>
      rw [if_pos rfl]
      refine ⟨Nat.le_refl _, fun j hj => ?_⟩
      rcases Nat.lt_or_ge j (k + 1) with z | z
      · cases q : lexL (vals j) (vals (k + 1)) with
        | false => rfl
        | true => have := lexL_tr q hb; rw [h2 j (by omega)] at this; cases this
      · have : j = k + 1 := by omega
        subst this
        exact lexL_irr _
    | false =>
      rw [if_neg Bool.false_ne_true]
      refine ⟨by omega, fun j hj => ?_⟩
      rcases Nat.lt_or_ge j (k + 1) with z | z
      · exact h2 j (by omega)
      · have : j = k + 1 := by omega
        subst this
        exact hb
/-- min(xs) of a list of tuples of ints -/
theorem min_intT {l : Addr} {vs : List Value} {Q : Value → Shared → Prop} (hh : A.handled = none) (hl : s.heap.IsList l vs.toArray) (hne : 0 < vs.length) (x : IntT s.heap vs) (hu : A.in1.units < cLine)
    (h : ∀ v h' tk, v ∈ vs → (∀ u ∈ vs, lexL (intsOf s.heap u) (intsOf s.heap v) = false) → (∀ b o, s.heap.get? b = some o → h'.get? b = some o) → Q v { s with heap := h', toks := tk }) :
    wpAny (model prog w) A (call (.builtin "min") [.ref l]) Q E s := by
  refine call_minT (pr := fun b => b < s.heap.objs.size) (fun b hb => hb) (iter_anyList hl fun s₂ e st hfp hlI => ?_)
  subst e
  have hsz : s.heap.objs.size < (s.heap.push { cls := .type "list_iterator", data := .fields #[.ref l, .int 0 0] }).objs.size := by rw [Heap.size_push]; exact Nat.lt_succ_self _
  refine ⟨_, _, _, _, _, _, fun i j => lexL (intsOf s.heap (vs.getD i .none)) (intsOf s.heap (vs.getD j .none)), rfl, Walks.list (A := A.in1) hh _ l hlI vs.toArray, st, hfp, by simpa using hne, fun i j vi vj s' Q' E' hK hi hj hQ => ?_, fun b hb => ?_, fun b o _ e => Heap.get?_push_of_some _ e, Nat.le_of_lt hsz, fun v h' tk hP hk => ?_⟩
  · have at_ : ∀ i v, vs.toArray[i]? = some v → v ∈ vs ∧ vs.getD i .none = v := fun i v e => by
      have e : vs[i]? = some v := by simpa using e
      exact ⟨List.mem_of_getElem? e, by rw [List.getD_eq_getElem?_getD, e]; rfl⟩
    obtain ⟨mi, ei⟩ := at_ i vi hi
    obtain ⟨mj, ej⟩ := at_ j vj hj
    have hQ : Q' (.bool (lexL (intsOf s.heap (vs.getD i .none)) (intsOf s.heap (vs.getD j .none)))) s' := hQ
    rw [ei, ej] at hQ
    obtain ⟨ns, ti⟩ := x vi mi
    obtain ⟨ms, tj⟩ := x vj mj
    rw [ti.ints, tj.ints] at hQ
    obtain ⟨a, xs, rfl, ⟨o, ho, hc, hd⟩, i1⟩ := ti
    obtain ⟨b, ys, rfl, ⟨o', ho', hc', hd'⟩, i2⟩ := tj
    exact rc_lt (A := A.in1) ⟨⟨o, hK _ _ (Heap.lt_size ho) ho, hc, hd⟩, ⟨o', hK _ _ (Heap.lt_size ho') ho', hc', hd'⟩, i1, i2⟩ hu prog w E' Q' hQ
  · have : b = s.heap.objs.size := by simpa using hb
    rw [this]
    exact Nat.lt_irrefl _
  · obtain ⟨h1, h2⟩ := argBest_lex (vals := fun i => intsOf s.heap (vs.getD i .none)) (vs.toArray.size - 1)
    have hP : vs[argBest (fun i j => lexL (intsOf s.heap (vs.getD i .none)) (intsOf s.heap (vs.getD j .none))) (vs.toArray.size - 1)]? = some v := by simpa using hP
    refine h v h' tk (List.mem_of_getElem? hP) (fun u hu' => ?_) (PySem.old_kept hk)
    obtain ⟨j, hj⟩ := List.mem_iff_getElem?.mp hu'
    have hjl : j < vs.length := (List.getElem?_eq_some_iff.mp hj).1
    have := h2 j (by rw [List.size_toArray]; omega)
    have e1 : vs.getD j .none = u := by rw [List.getD_eq_getElem?_getD, hj]; rfl
    have e2 : vs.getD (argBest (fun i j => lexL (intsOf s.heap (vs.getD i .none)) (intsOf s.heap (vs.getD j .none))) (vs.toArray.size - 1)) .none = v := by rw [List.getD_eq_getElem?_getD, hP]; rfl
    rw [e1, e2] at this
    exact this
end
end Rf

set_option Elab.async false
set_option linter.all false
set_option maxRecDepth 100000
set_option maxHeartbeats 0
/-! Rf, part 35: sorted() and min() of lists of tuples of ints, as calls of the layer. -/
namespace Rf
open PySem L2 TL TS PyProof.Rows

/-! ### the order's facts -/
abbrev leL (a b : List Int) : Prop := lexL b a = false
theorem leL_tr {a b c : List Int} (h : leL a b) (h' : leL b c) : leL a c := by
  cases q : lexL c a with
  | false => exact q
  | true =>
    exfalso
    cases q2 : lexL a b with
    | true => have := lexL_tr q q2; rw [show lexL c b = false from h'] at this; cases this
    | false =>
      have e := lexL_tot q2 h
      subst e
      rw [show lexL c a = false from h'] at q
      cases q
def insL (a : List Int) : List (List Int) → List (List Int)
  | [] => [a]
  | b :: l => if lexL b a = true then b :: insL a l else a :: b :: l
def srtL : List (List Int) → List (List Int)
  | [] => []
  | a :: l => insL a (srtL l)
theorem insL_perm (a : List Int) : ∀ l, (insL a l).Perm (a :: l)
  | [] => List.Perm.refl _
  | b :: l => by
    rw [insL]
    split
    · exact ((insL_perm a l).cons b).trans (List.Perm.swap a b l)
    · exact List.Perm.refl _
theorem srtL_perm : ∀ l, (srtL l).Perm l
  | [] => List.Perm.refl _
  | a :: l => (insL_perm a _).trans ((srtL_perm l).cons a)
theorem insL_pw (a : List Int) : ∀ {l : List (List Int)}, l.Pairwise leL → (insL a l).Pairwise leL
  | [], _ => List.pairwise_singleton _ _
  | b :: l, h => by
    obtain ⟨h1, h2⟩ := List.pairwise_cons.mp h
    rw [insL]
    split
    · rename_i q
      refine List.pairwise_cons.mpr ⟨fun x hx => ?_, insL_pw a h2⟩
      rcases List.mem_cons.mp ((insL_perm a l).mem_iff.mp hx) with rfl | hx
      · cases z : lexL x b with
        | false => exact z
        | true => have := lexL_tr q z; rw [lexL_irr] at this; cases this
      · exact h1 x hx
    · rename_i q
      have q : leL a b := by simpa using q
      refine List.pairwise_cons.mpr ⟨fun x hx => ?_, h⟩
      rcases List.mem_cons.mp hx with rfl | hx
      · exact q
      · exact leL_tr q (h1 x hx)
theorem srtL_pw : ∀ l, (srtL l).Pairwise leL
  | [] => .nil
  | a :: l => insL_pw a (srtL_pw l)
theorem srt_uniq : ∀ {l m : List (List Int)}, l.Perm m → l.Pairwise leL → m.Pairwise leL → l = m
  | [], m, p, _, _ => (p.nil_eq)
  | a :: l, [], p, _, _ => by have := p.length_eq; cases this
  | a :: l, b :: m, p, h, h' => by
    obtain ⟨h1, h2⟩ := List.pairwise_cons.mp h
    obtain ⟨h1', h2'⟩ := List.pairwise_cons.mp h'
    have e : a = b := by
      have ma := p.mem_iff.mp (List.mem_cons_self (a := a) (l := l))
      have mb := p.mem_iff.mpr (List.mem_cons_self (a := b) (l := m))
      rcases List.mem_cons.mp ma with e | ma
      · exact e
      · rcases List.mem_cons.mp mb with e | mb
        · exact e.symm
        · exact lexL_tot (h1' a ma) (h1 b mb)
    subst e
    rw [srt_uniq p.cons_inv h2 h2']
def minL (a : List Int) : List (List Int) → List Int
  | [] => a
  | b :: l => minL (if lexL b a = true then b else a) l
theorem minL_ok : ∀ (l : List (List Int)) (a : List Int), minL a l ∈ a :: l ∧ ∀ x ∈ a :: l, leL (minL a l) x
  | [], a => ⟨List.mem_cons_self, fun x hx => by
    have : x = a := by simpa using hx
    subst this
    exact lexL_irr _⟩
  | b :: l, a => by
    rw [minL]
    by_cases q : lexL b a = true
    · rw [if_pos q]
      obtain ⟨h1, h2⟩ := minL_ok l b
      refine ⟨List.mem_cons_of_mem _ h1, fun x hx => ?_⟩
      rcases List.mem_cons.mp hx with rfl | hx
      · refine leL_tr (h2 _ List.mem_cons_self) ?_
        cases z : lexL x b with
        | false => exact z
        | true => have := lexL_tr q z; rw [lexL_irr] at this; cases this
      · exact h2 x hx
    · rw [if_neg q]
      obtain ⟨h1, h2⟩ := minL_ok l a
      refine ⟨?_, fun x hx => ?_⟩
      · rcases List.mem_cons.mp h1 with e | h1
        · rw [e]; exact List.mem_cons_self
        · exact List.mem_cons_of_mem _ (List.mem_cons_of_mem _ h1)
      · rcases List.mem_cons.mp hx with rfl | hx
        · exact h2 _ List.mem_cons_self
        · rcases List.mem_cons.mp hx with rfl | hx
          · refine leL_tr (h2 _ List.mem_cons_self) ?_
            simpa using q
          · exact h2 x (List.mem_cons_of_mem _ hx)

/-! ### the calls -/
def dTI (ns : List Int) : D := .tup (ns.map .int)
def isI : List D → Option (List Int)
  | [] => some []
  | .int i :: ds => (isI ds).map (i :: ·)
  | _ => none
def iT : D → Option (List Int)
  | .tup ds => isI ds
  | _ => none
def iTs : List D → Option (List (List Int))
  | [] => some []
  | d :: ds => match iT d, iTs ds with
    | some n, some r => some (n :: r)
    | _, _ => none
def bSortT : List D → Option (List D)
  | [.lst ds] => if ds.length < 64 then (iTs ds).map fun l => (srtL l).map dTI else none
  | _ => none
def bMinT : List D → Option D
  | [.lst ds] => match iTs ds with
    | some (n :: l) => some (dTI (minL n l))
    | _ => none
  | _ => none
theorem isI_ks : ∀ {ds : List D} {ns : List Int}, isI ds = some ns → ksI ds = some (ns.map Sum.inl)
  | [], ns, h => by cases h; rfl
  | .int i :: ds, ns, h => by
    simp only [isI, Option.map_eq_some_iff] at h
    obtain ⟨l, h, rfl⟩ := h
    simp only [ksI, isI_ks h]
    rfl
  | .non :: _, _, h => by cases h
  | .bl _ :: _, _, h => by cases h
  | .str _ :: _, _, h => by cases h
  | .tup _ :: _, _, h => by cases h
  | .lst _ :: _, _, h => by cases h
  | .obj _ :: _, _, h => by cases h
  | .gl _ :: _, _, h => by cases h
  | .ty _ :: _, _, h => by cases h
  | .scr _ :: _, _, h => by cases h
  | .edc :: _, _, h => by cases h
  | .ins _ _ _ :: _, _, h => by cases h
theorem iT_ok {k : Kx} {H : Hp} {g : G} {d : D} {v : V} {ns : List Int} (h : iT d = some ns) (r : Rep k H g d v) : ∃ b, v = .ref b ∧ H b = some (.tup (ns.map V.int)) := by
  cases d with
  | tup ds =>
    obtain ⟨b, e, hb⟩ := kTup_ok (ks := ns.map Sum.inl) (show kTup (.tup ds) = _ from isI_ks h) r
    refine ⟨b, e, ?_⟩
    rw [hb, List.map_map]
    rfl
  | _ => cases h
section
variable {X : Cx} {pins : List (Addr × Obj)} {σ : L2.St} {H : Hp} {s : Shared} {g : G}
/-- the items of the list, raw -/
theorem raw_ts (I : Inv X pins σ H s) : ∀ {ds : List D} {vs : List V} {us : List Value} {l : List (List Int)}, iTs ds = some l → RepL (kx X) H g ds vs → Vals vs us →
    us.map (intsOf s.heap) = l ∧ ∀ u ∈ us, ∃ b ns, u = .ref b ∧ H b = some (.tup (ns.map V.int)) ∧ TupInts s.heap u ns
  | [], vs, us, l, h, r, rv => by
    cases h
    cases (show vs = [] from r)
    cases rv
    exact ⟨rfl, fun u hu => by cases hu⟩
  | d :: ds, vs, us, l, h, ⟨v, t, e, r1, r2⟩, rv => by
    subst e
    cases rv with
    | cons q1 q2 =>
      rename_i u us
      simp only [iTs] at h
      split at h
      · rename_i n r hn hr
        cases h
        obtain ⟨b, rfl, hb⟩ := iT_ok hn r1
        obtain rfl : u = Value.ref b := q1
        obtain ⟨its, rv, hl, hz⟩ := I.tuple (show SqT X.K H b (n.map V.int) from .inl (.inl hb))
        have ti : TupInts s.heap (.ref b) n := ⟨b, its.toArray, rfl, hl, by simpa using Vals.ints rv⟩
        obtain ⟨e1, e2⟩ := raw_ts I hr r2 q2
        refine ⟨by rw [List.map_cons, e1, ti.ints], fun w hw => ?_⟩
        rcases List.mem_cons.mp hw with rfl | hw
        · exact ⟨b, n, rfl, hb, ti⟩
        · exact e2 w hw
      · cases h
theorem rep_ints {H : Hp} {k : Kx} (ns : List Int) : RepL k H g (ns.map D.int) (ns.map V.int) := by
  induction ns with
  | nil => rfl
  | cons n ns ih => exact ⟨_, _, rfl, rfl, ih⟩
theorem rep_outs : ∀ {us : List Value}, (∀ u ∈ us, ∃ b ns, u = Value.ref b ∧ H b = some (.tup (ns.map V.int)) ∧ TupInts s.heap u ns) → RepL (kx X) H g ((us.map (intsOf s.heap)).map dTI) (us.map bkV) ∧ Vals (us.map bkV) us
  | [], _ => ⟨rfl, .nil⟩
  | u :: us, h => by
    obtain ⟨b, ns, rfl, hb, ti⟩ := h u List.mem_cons_self
    obtain ⟨q1, q2⟩ := rep_outs fun w hw => h w (List.mem_cons_of_mem _ hw)
    refine ⟨⟨_, _, rfl, ?_, q1⟩, .cons rfl q2⟩
    rw [ti.ints]
    exact ⟨b, ns.map V.int, rfl, .inl hb, rep_ints ns⟩
end
section
variable {X : Cx}
theorem bSortT_ok (hu : X.A.units + 64 < cLine) : CallF X (.builtin "sorted") bSortT := by
  intro args res h
  unfold bSortT at h
  split at h
  · rename_i ds
    split at h
    · rename_i h64
      obtain ⟨l, hl, rfl⟩ := Option.map_eq_some_iff.mp h
      intro pins s σ H xs us Q I r ⟨g, S, w, c, q⟩
      obtain ⟨v, t, rfl, ⟨a, vs, rfl, ha, rl⟩, ht⟩ := c
      cases (show t = [] from ht)
      rw [Vals.ref1 r]
      obtain ⟨its, rv, hls, hz⟩ := I.list (show SqL X.K H a vs from SqL.of ha)
      obtain ⟨e1, e2⟩ := raw_ts (g := g) I hl rl rv
      have hlen : its.length = ds.length := by rw [← rv.length, rl.length]
      refine sorted_intT hls.isList (by rw [hlen]; exact h64) (fun u hu' => ?_) (by show X.A.units + 1 + 1 < cLine; omega) fun out h1 h2 => ?_
      · obtain ⟨b, ns, e, _, ti⟩ := e2 u hu'
        exact ⟨ns, ti⟩
      · obtain ⟨ep, he'⟩ := PyProof.Rows.sortedAll_at s.heap its out
        have e3 : ∀ u ∈ out.toList, ∃ b ns, u = Value.ref b ∧ H b = some (.tup (ns.map V.int)) ∧ TupInts s.heap u ns := fun u hu' => e2 u (h1.mem_iff.mp hu')
        obtain ⟨r1, r2⟩ := rep_outs (g := g) e3
        have eq : out.toList.map (intsOf s.heap) = srtL l := by
          refine srt_uniq ((h1.map (intsOf s.heap)).trans ?_) ?_ (srtL_pw l)
          · rw [e1]; exact (srtL_perm l).symm
          · rw [List.pairwise_map]; exact h2
        rw [eq] at r1
        have hlo : (out.toList.map bkV).length ≤ sizeLine := by
          rw [List.length_map, h1.length_eq, sizeLine_eq]; omega
        exact ⟨.ref _, upd H (s.heap.objs.size + 1) (.lst (out.toList.map bkV)), I.laid (t' := s.toks) (fun _ _ => PyProof.Rows.sortedAll_old) (Nat.le_succ _) ⟨hlo, out.toList, ep, r2, he'⟩, rfl, q _ _ (I.hok.fresh (Nat.le_succ _)) r1⟩
    · cases h
  · cases h
theorem bMinT_ok (hc : X.calm = true) (hu : X.A.units + 64 < cLine) : CallC X (.builtin "min") bMinT := by
  intro args res h
  unfold bMinT at h
  split at h
  · rename_i ds
    split at h
    · rename_i n l hl
      cases h
      intro pins s σ H xs us Q I r ⟨g, S, w, c, q⟩
      obtain ⟨v, t, rfl, ⟨a, vs, rfl, ha, rl⟩, ht⟩ := c
      cases (show t = [] from ht)
      rw [Vals.ref1 r]
      obtain ⟨its, rv, hls, hz⟩ := I.list (show SqL X.K H a vs from SqL.of ha)
      obtain ⟨e1, e2⟩ := raw_ts (g := g) I hl rl rv
      have hne : 0 < its.length := by
        have := congrArg List.length e1
        rw [List.length_map, List.length_cons] at this
        omega
      refine min_intT (I.ok.hd hc) hls.isList hne (fun u hu' => ?_) (by show X.A.units + 1 < cLine; omega) fun v h' tk hv hm hk => ?_
      · obtain ⟨b, ns, e, _, ti⟩ := e2 u hu'
        exact ⟨ns, ti⟩
      · obtain ⟨b, ns, rfl, hb, ti⟩ := e2 v hv
        obtain ⟨m1, m2⟩ := minL_ok l n
        have ein : ns ∈ n :: l := by rw [← e1, ← ti.ints]; exact List.mem_map.mpr ⟨_, hv, rfl⟩
        have emin : ns = minL n l := by
          have q1 : leL (minL n l) ns := m2 ns ein
          have q2 : leL ns (minL n l) := by
            rw [← e1] at m1
            obtain ⟨u, hu', eu⟩ := List.mem_map.mp m1
            have := hm u hu'
            rw [ti.ints, eu] at this
            exact this
          exact lexL_tot q1 q2
        rw [emin] at hb
        exact ⟨.ref b, H, I.kept hk, rfl, q _ _ g (Ext.refl H g) w ⟨b, _, rfl, .inl hb, rep_ints _⟩⟩
    · cases h
  · cases h
end
end Rf

set_option Elab.async false
set_option linter.all false
set_option maxRecDepth 100000
set_option maxHeartbeats 0
/-! Rf, part 36: xs[::-1]; the rules for own dicts. -/
namespace Rf
open PySem L2 TL
theorem un1 {u c : Nat} (h : u + 64 < c) : u + 1 < c := by omega
def fRev (m : EM) : Ls → Sto → R (List D) := fun L S => (m L S).bind fun d S1 => match deref S1 d with
  | .lst ds => .ok ds.reverse S1
  | _ => .no
section
variable {X : Cx} {W : WX} {e : Expr} {m : EM} {k : Nat} {p1 p2 p3 pos : Pos}
theorem sf_rev (h : SP X W e m) : SF X W (.Subscript e (.Slice none none (some (.UnaryOp .USub (.Constant (.int 1) k p1) p2)) p3) pos) (fRev m) :=
  PE.imp (pe_revL h) fun σ H Q ⟨L, S, g, l, w, p⟩ => ⟨L, S, g, l, w, Post.bind p fun d S1 v H1 g1 e1 w1 r1 p1 => by
    have c := r1.c (l.ext e1) w1
    split at p1
    · rename_i ds q
      rw [q] at c
      obtain ⟨a, vs, rfl, ha, rl⟩ := c
      exact ⟨a, vs, rfl, SqL.of ha, fun b hb => f_fin e1 w1 rl.reverse p1 hb⟩
    · exact p1.elim⟩
end
section
variable {xp : ExP} {P : D → Sto → Prop} {PL : List D → Sto → Prop} {PS : Fl → Ls → Sto → Prop} {L : Ls} {S : Sto} {i : Nat} {a b m : EM}
theorem r_fRev (h : wp (m L S) fun d S1 => ∃ ds, deref S1 d = .lst ds ∧ PL ds.reverse S1) : wp (fRev m L S) PL := by
  unfold fRev
  rw [wp_bind]
  refine h.mono fun d S1 ⟨ds, e, h⟩ => ?_
  rw [e]
  exact ⟨h⟩
theorem q_dct (h : PS .nx (L.set i (.o (.dT []))) S) : wps (sDct i L S) PS := ⟨h⟩
theorem q_putT (h : wp (b L S) fun d S1 => ∃ kvs, L[i]? = some (.o (.dT kvs)) ∧ wp (a L S1) fun y S2 => ∃ q, kTup y = some q ∧ kvs.length < sizeLine ∧ PS .nx (L.set i (.o (.dT (dPut kvs q d)))) S2) : wps (sPutT i a b L S) PS := by
  unfold sPutT
  rw [wps_st]
  refine h.mono fun d S1 ⟨kvs, e, h⟩ => ?_
  rw [e]
  dsimp only
  rw [wps_st]
  refine h.mono fun y S2 ⟨q, e1, e2, h⟩ => ?_
  rw [e1]
  dsimp only
  rw [if_pos e2]
  exact ⟨h⟩
theorem r_getT (h : ∃ kvs, L[i]? = some (.o (.dT kvs)) ∧ wp (a L S) fun y S1 => ∃ q, kTup y = some q ∧ ∃ d, dGet kvs q = some d ∧ P d S1) : wp (eGetT i a L S) P := by
  obtain ⟨kvs, e, h⟩ := h
  unfold eGetT
  rw [e]
  dsimp only
  rw [wp_bind]
  refine h.mono fun y S1 ⟨q, e1, d, e2, h⟩ => ?_
  rw [e1]
  dsimp only
  exact r_lift ⟨d, e2, h⟩
theorem r_keysT (h : ∃ kvs, L[i]? = some (.o (.dT kvs)) ∧ PL (kvs.map fun kv => .tup (kv.1.map kD)) S) : wp (fKeysT i L S) PL := by
  obtain ⟨kvs, e, h⟩ := h
  unfold fKeysT
  rw [e]
  exact ⟨h⟩
instance : Wp (fRev m L S) PL (wp (m L S) fun d S1 => ∃ ds, deref S1 d = .lst ds ∧ PL ds.reverse S1) := ⟨r_fRev⟩
instance : Ws (sDct i L S) PS (PS .nx (L.set i (.o (.dT []))) S) := ⟨q_dct⟩
instance : Ws (sPutT i a b L S) PS (wp (b L S) fun d S1 => ∃ kvs, L[i]? = some (.o (.dT kvs)) ∧ wp (a L S1) fun y S2 => ∃ q, kTup y = some q ∧ kvs.length < sizeLine ∧ PS .nx (L.set i (.o (.dT (dPut kvs q d)))) S2) := ⟨q_putT⟩
instance : Wp (eGetT i a L S) P (∃ kvs, L[i]? = some (.o (.dT kvs)) ∧ wp (a L S) fun y S1 => ∃ q, kTup y = some q ∧ ∃ d, dGet kvs q = some d ∧ P d S1) := ⟨r_getT⟩
instance : Wp (fKeysT i L S) PL (∃ kvs, L[i]? = some (.o (.dT kvs)) ∧ PL (kvs.map fun kv => .tup (kv.1.map kD)) S) := ⟨r_keysT⟩
end
end Rf

set_option Elab.async false
set_option linter.all false
set_option maxRecDepth 100000
set_option maxHeartbeats 0
namespace Rf
open PySem PySem.Spec PyProof.Rows L2 TL
variable {xp : ExP}
noncomputable abbrev c__law_deck : Fn := c_deck
/-! _law_same: slots {'_law_one_here': 0, '_law_other': 1, '_law_a': 2, '_law_b': 3} -/
noncomputable abbrev m__law_same (r_self : Fn) : SM := sSeq (sIf (tOo (tTr (eCall bIsI (aCons (pVar 0) (aCons (eTup (aCons (eC (.ty "tuple")) (aCons (eC (.ty "list")) (aNil)))) (aNil))))) (tTr (eCall bIsI (aCons (pVar 1) (aCons (eTup (aCons (eC (.ty "tuple")) (aCons (eC (.ty "list")) (aNil)))) (aNil)))))) (sSeq (sIf (tOo (tOfE (eBin cNe (eCall bIsI (aCons (pVar 0) (aCons (eC (.ty "tuple")) (aNil)))) (eCall bIsI (aCons (pVar 1) (aCons (eC (.ty "tuple")) (aNil)))))) (tOfE (eBin cNe (eCall bIsI (aCons (pVar 0) (aCons (eC (.ty "list")) (aNil)))) (eCall bIsI (aCons (pVar 1) (aCons (eC (.ty "list")) (aNil))))))) (sSeq (sRet (eC (.bl false))) (sNil)) (sNil)) (sSeq (sRet (eAn (eBin cEq (eCall bLen (aCons (pVar 0) (aNil))) (eCall bLen (aCons (pVar 1) (aNil)))) (eCall bAll (aCons (eFz (fLc (iArgs zipOf (aCons (pVar 0) (aCons (pVar 1) (aNil)))) [2, 3] (.tup [.nm 2, .nm 3]) (tYs) (eFn r_self (aCons (eVar 2) (aCons (eVar 3) (aNil)))))) (aNil))))) (sNil))) (sNil)) (sSeq (sIf (tOo (tTr (eCall bIsI (aCons (pVar 0) (aCons (eC (.ty "bool")) (aNil))))) (tTr (eCall bIsI (aCons (pVar 1) (aCons (eC (.ty "bool")) (aNil)))))) (sSeq (sRet (eAn (eCall bIsI (aCons (pVar 0) (aCons (eC (.ty "bool")) (aNil)))) (eAn (eCall bIsI (aCons (pVar 1) (aCons (eC (.ty "bool")) (aNil)))) (eBin cEq (pVar 0) (pVar 1))))) (sNil)) (sNil)) (sSeq (sIf (tOo (tTr (eCall bIsI (aCons (pVar 0) (aCons (eC (.ty "int")) (aNil))))) (tTr (eCall bIsI (aCons (pVar 1) (aCons (eC (.ty "int")) (aNil)))))) (sSeq (sRet (eAn (eCall bIsI (aCons (pVar 0) (aCons (eC (.ty "int")) (aNil)))) (eAn (eCall bIsI (aCons (pVar 1) (aCons (eC (.ty "int")) (aNil)))) (eBin cEq (pVar 0) (pVar 1))))) (sNil)) (sNil)) (sSeq (sIf (tOo (tTr (eCall bIsI (aCons (pVar 0) (aCons (eC (.ty "str")) (aNil))))) (tTr (eCall bIsI (aCons (pVar 1) (aCons (eC (.ty "str")) (aNil)))))) (sSeq (sRet (eAn (eCall bIsI (aCons (pVar 0) (aCons (eC (.ty "str")) (aNil)))) (eAn (eCall bIsI (aCons (pVar 1) (aCons (eC (.ty "str")) (aNil)))) (eBin cEq (pVar 0) (pVar 1))))) (sNil)) (sNil)) (sSeq (sRet (eAn (eBin cIs (pVar 0) (eC .non)) (eBin cIs (pVar 1) (eC .non)))) (sNil)))))
noncomputable def c__law_same : Nat → Fn
  | 0 => fnSem 4 2 sNo
  | n + 1 => fnSem 4 2 (m__law_same (c__law_same n))
theorem u__law_same {x0 x1 : D} {n : Nat} {S : Sto} {P : D → Sto → Prop} (h : wps (m__law_same (c__law_same n) [.v x0, .v x1, .un, .un] S) fun fl _ S1 => match fl with
    | .nx => P .non S1
    | .rt d => P d S1
    | _ => False) : wp (c__law_same (n + 1) [x0, x1] S) P := q_fn rfl h
noncomputable abbrev c__law_draw : Fn := c_draw1
noncomputable abbrev c__law_one : Fn := c_one
/-! _law_text: slots {'_law_deck_here': 0, '_law_many': 1, '_law_signs_here': 2, '_law_k': 3} -/
noncomputable abbrev m__law_text : SM := sSeq (sRet (eM1 oJoin (eC (.str [])) (eFz (fLc (iArgs rng1 (aCons (pVar 1) (aNil))) [3] (.nm 3) (tYs) (eFn c__law_one (aCons (eVar 0) (aCons (eVar 2) (aNil)))))))) (sNil)
noncomputable def c__law_text : Fn := fnSem 4 3 m__law_text
theorem u__law_text {x0 x1 x2 : D} {S : Sto} {P : D → Sto → Prop} (h : wps (m__law_text [.v x0, .v x1, .v x2, .un] S) fun fl _ S1 => match fl with
    | .nx => P .non S1
    | .rt d => P d S1
    | _ => False) : wp (c__law_text [x0, x1, x2] S) P := q_fn rfl h
end Rf

set_option Elab.async false
set_option linter.all false
set_option maxRecDepth 100000
set_option maxHeartbeats 0
namespace Rf
open PySem PySem.Spec PyProof.Rows L2 TL
variable {xp : ExP}
def tab_ITEMS : Tb := [([110, 117, 109, 98, 101, 114], (.int 2)), ([111, 100, 100], (.int 1)), ([119, 111, 114, 100], (.int 2)), ([116, 117, 112, 108, 101], (.int 2)), ([114, 111, 119], (.int 2))]
/-! is_number: slots {'value': 0} -/
noncomputable abbrev m_is_number : SM := sSeq (sIf (tOo (tNt (tTr (eCall bIsI (aCons (pVar 0) (aCons (eC (.ty "int")) (aNil)))))) (tOo (tTr (eCall bIsI (aCons (pVar 0) (aCons (eC (.ty "bool")) (aNil))))) (tOfE (eBin cGt (eM0 oBits (eVar 0)) (eBin oMul (eC (.int 4)) (eC (.int 150))))))) (sSeq (sRet (eC (.bl false))) (sNil)) (sNil)) (sSeq (sRet (eBin cLe (eCall bLen (aCons (eCall bStr (aCons (eCall bAbs (aCons (pVar 0) (aNil))) (aNil))) (aNil))) (eC (.int 150)))) (sNil))
noncomputable def c_is_number : Fn := fnSem 1 1 m_is_number
theorem u_is_number {x0 : D} {S : Sto} {P : D → Sto → Prop} (h : wps (m_is_number [.v x0] S) fun fl _ S1 => match fl with
    | .nx => P .non S1
    | .rt d => P d S1
    | _ => False) : wp (c_is_number [x0] S) P := q_fn rfl h
/-! has_signs: slots {'value': 0, 'most': 1, 'sign': 2} -/
noncomputable abbrev m_has_signs : SM := sSeq (sRet (eAn (eCall bIsI (aCons (pVar 0) (aCons (eC (.ty "str")) (aNil)))) (eAn (eCh cLe cLe (eC (.int 1)) (eCall bLen (aCons (pVar 0) (aNil))) (pVar 1)) (eCall bAll (aCons (eFz (fLc (iVal (pVar 0)) [2] (.nm 2) (tYs) (eBin cIn (pVar 2) (eC (.str [97, 98, 99, 100, 101, 102, 103, 104, 105, 106, 107, 108, 109, 110, 111, 112, 113, 114, 115, 116, 117, 118, 119, 120, 121, 122, 48, 49, 50, 51, 52, 53, 54, 55, 56, 57]))))) (aNil)))))) (sNil)
noncomputable def c_has_signs : Fn := fnSem 3 2 m_has_signs
theorem u_has_signs {x0 x1 : D} {S : Sto} {P : D → Sto → Prop} (h : wps (m_has_signs [.v x0, .v x1, .un] S) fun fl _ S1 => match fl with
    | .nx => P .non S1
    | .rt d => P d S1
    | _ => False) : wp (c_has_signs [x0, x1] S) P := q_fn rfl h
/-! is_word: slots {'value': 0} -/
noncomputable abbrev m_is_word : SM := sSeq (sRet (eFn c_has_signs (aCons (eVar 0) (aCons (eC (.int 8)) (aNil))))) (sNil)
noncomputable def c_is_word : Fn := fnSem 1 1 m_is_word
theorem u_is_word {x0 : D} {S : Sto} {P : D → Sto → Prop} (h : wps (m_is_word [.v x0] S) fun fl _ S1 => match fl with
    | .nx => P .non S1
    | .rt d => P d S1
    | _ => False) : wp (c_is_word [x0] S) P := q_fn rfl h
/-! own_error: slots {'value': 0, 'inside': 1, 'kind': 2} -/
noncomputable abbrev m_own_error : SM := sSeq (sIf (tOo (tNt (tTr (eCall bIsI (aCons (pVar 0) (aCons (eC (.ty "tuple")) (aNil)))))) (tOo (tOfE (eBin cEq (eCall bLen (aCons (pVar 0) (aNil))) (eC (.int 0)))) (tNt (tTr (eCall bIsI (aCons (eBin oIx (pVar 0) (eC (.int 0))) (aCons (eC (.ty "str")) (aNil)))))))) (sSeq (sRet (eC (.str [102, 111, 114, 109]))) (sNil)) (sNil)) (sSeq (sSet 2 (eBin oIx (pVar 0) (eC (.int 0)))) (sSeq (sIf (tOo (tOfE (eInT true tab_ITEMS (eVar 2))) (tOfE (eBin cNe (eCall bLen (aCons (pVar 0) (aNil))) (eIxT tab_ITEMS (eVar 2))))) (sSeq (sRet (eC (.str [102, 111, 114, 109]))) (sNil)) (sNil)) (sSeq (sIf (tOfE (eBin cEq (pVar 2) (eC (.str [110, 117, 109, 98, 101, 114])))) (sSeq (sRet (eIf (tTr (eFn c_is_number (aCons (eBin oIx (pVar 0) (eC (.int 1))) (aNil)))) (eC .non) (eC (.str [110, 117, 109, 98, 101, 114])))) (sNil)) (sNil)) (sSeq (sIf (tOfE (eBin cEq (pVar 2) (eC (.str [119, 111, 114, 100])))) (sSeq (sRet (eIf (tTr (eFn c_is_word (aCons (eBin oIx (pVar 0) (eC (.int 1))) (aNil)))) (eC .non) (eC (.str [119, 111, 114, 100])))) (sNil)) (sNil)) (sSeq (sIf (tOfE (eBin cEq (pVar 2) (eC (.str [111, 100, 100])))) (sSeq (sRet (eC .non)) (sNil)) (sNil)) (sSeq (sIf (tNt (tTr (eCall bIsI (aCons (eBin oIx (pVar 0) (eC (.int 1))) (aCons (eC (.ty "tuple")) (aNil)))))) (sSeq (sRet (eC (.str [102, 111, 114, 109]))) (sNil)) (sNil)) (sSeq (sRet (eIf (tAn (tOfE (eBin cEq (pVar 2) (eC (.str [114, 111, 119])))) (tTr (pVar 1))) (eC (.str [105, 110, 115, 105, 100, 101])) (eC .non))) (sNil))))))))
noncomputable def c_own_error : Fn := fnSem 3 2 m_own_error
theorem u_own_error {x0 x1 : D} {S : Sto} {P : D → Sto → Prop} (h : wps (m_own_error [.v x0, .v x1, .un] S) fun fl _ S1 => match fl with
    | .nx => P .non S1
    | .rt d => P d S1
    | _ => False) : wp (c_own_error [x0, x1] S) P := q_fn rfl h
/-! items_of: slots {'look': 0} -/
noncomputable abbrev m_items_of : SM := sSeq (sRet (eIf (tOo (tOfE (eBin cEq (eBin oIx (pVar 0) (eC (.int 0))) (eC (.str [116, 117, 112, 108, 101])))) (tOfE (eBin cEq (eBin oIx (pVar 0) (eC (.int 0))) (eC (.str [114, 111, 119]))))) (eBin oIx (pVar 0) (eC (.int 1))) (eTup (aNil)))) (sNil)
noncomputable def c_items_of : Fn := fnSem 1 1 m_items_of
theorem u_items_of {x0 : D} {S : Sto} {P : D → Sto → Prop} (h : wps (m_items_of [.v x0] S) fun fl _ S1 => match fl with
    | .nx => P .non S1
    | .rt d => P d S1
    | _ => False) : wp (c_items_of [x0] S) P := q_fn rfl h
/-! first_error: slots {'value': 0, 'path': 1, 'why': 2, 'at': 3, 'item': 4, 'found': 5} -/
noncomputable abbrev m_first_error (r_self : Fn) : SM := sSeq (sSet 2 (eFn c_own_error (aCons (eVar 0) (aCons (eBin cNe (pVar 1) (eTup (aNil))) (aNil))))) (sSeq (sIf (tOfE (eBin cIsNot (pVar 2) (eC .non))) (sSeq (sRet (eTup (aCons (eVar 1) (aCons (eVar 2) (aNil))))) (sNil)) (sNil)) (sSeq (sFor (iArgs enOf (aCons (eFn c_items_of (aCons (eVar 0) (aNil))) (aNil))) (.tup [.nm 3, .nm 4]) (sSeq (sSet 5 (eFn r_self (aCons (eVar 4) (aCons (eBin oAdd (pVar 1) (eTup (aCons (eVar 3) (aNil)))) (aNil))))) (sSeq (sIf (tOfE (eBin cIsNot (pVar 5) (eC .non))) (sSeq (sRet (eVar 5)) (sNil)) (sNil)) (sNil)))) (sSeq (sRet (eC .non)) (sNil))))
noncomputable def c_first_error : Nat → Fn
  | 0 => fnSem 6 2 sNo
  | n + 1 => fnSem 6 2 (m_first_error (c_first_error n))
theorem u_first_error {x0 x1 : D} {n : Nat} {S : Sto} {P : D → Sto → Prop} (h : wps (m_first_error (c_first_error n) [.v x0, .v x1, .un, .un, .un, .un] S) fun fl _ S1 => match fl with
    | .nx => P .non S1
    | .rt d => P d S1
    | _ => False) : wp (c_first_error (n + 1) [x0, x1] S) P := q_fn rfl h
/-! size_of: slots {'look': 0, 'item': 1} -/
noncomputable abbrev m_size_of (r_self : Fn) : SM := sSeq (sRet (eBin oAdd (eC (.int 1)) (eCall bSum (aCons (eFz (fLc (iVal (eFn c_items_of (aCons (eVar 0) (aNil)))) [1] (.nm 1) (tYs) (eFn r_self (aCons (eVar 1) (aNil))))) (aNil))))) (sNil)
noncomputable def c_size_of : Nat → Fn
  | 0 => fnSem 2 1 sNo
  | n + 1 => fnSem 2 1 (m_size_of (c_size_of n))
theorem u_size_of {x0 : D} {n : Nat} {S : Sto} {P : D → Sto → Prop} (h : wps (m_size_of (c_size_of n) [.v x0, .un] S) fun fl _ S1 => match fl with
    | .nx => P .non S1
    | .rt d => P d S1
    | _ => False) : wp (c_size_of (n + 1) [x0] S) P := q_fn rfl h
/-! look_error: slots {'value': 0, 'found': 1, 'at': 2, 'item': 3} -/
noncomputable abbrev m_look_error : SM := sSeq (sSet 1 (eFn (c_first_error 40) (aCons (eVar 0) (aCons (eTup (aNil)) (aNil))))) (sSeq (sIf (tOfE (eBin cIsNot (pVar 1) (eC .non))) (sSeq (sRet (eVar 1)) (sNil)) (sNil)) (sSeq (sIf (tOfE (eBin cNe (eBin oIx (pVar 0) (eC (.int 0))) (eC (.str [114, 111, 119])))) (sSeq (sRet (eIf (tOfE (eBin cGt (eFn (c_size_of 40) (aCons (eVar 0) (aNil))) (eC (.int 30)))) (eTup (aCons (eTup (aNil)) (aCons (eC (.str [115, 105, 122, 101])) (aNil)))) (eC .non))) (sNil)) (sNil)) (sSeq (sIf (tOfE (eBin cGt (eCall bLen (aCons (eBin oIx (pVar 0) (eC (.int 1))) (aNil))) (eC (.int 30)))) (sSeq (sRet (eTup (aCons (eTup (aNil)) (aCons (eC (.str [108, 111, 110, 103])) (aNil))))) (sNil)) (sNil)) (sSeq (sFor (iArgs enOf (aCons (eBin oIx (pVar 0) (eC (.int 1))) (aNil))) (.tup [.nm 2, .nm 3]) (sSeq (sIf (tOfE (eBin cGt (eFn (c_size_of 40) (aCons (eVar 3) (aNil))) (eC (.int 30)))) (sSeq (sRet (eTup (aCons (eTup (aCons (eVar 2) (aNil))) (aCons (eC (.str [115, 105, 122, 101])) (aNil))))) (sNil)) (sNil)) (sNil))) (sSeq (sRet (eC .non)) (sNil))))))
noncomputable def c_look_error : Fn := fnSem 4 1 m_look_error
theorem u_look_error {x0 : D} {S : Sto} {P : D → Sto → Prop} (h : wps (m_look_error [.v x0, .un, .un, .un] S) fun fl _ S1 => match fl with
    | .nx => P .non S1
    | .rt d => P d S1
    | _ => False) : wp (c_look_error [x0] S) P := q_fn rfl h
end Rf

set_option Elab.async false
set_option linter.all false
set_option maxRecDepth 100000
set_option maxHeartbeats 0
namespace Rf
open PySem PySem.Spec PyProof.Rows L2 TL
variable {xp : ExP}
/-! _law_signs: slots {'_law_small': 0} -/
noncomputable abbrev m__law_signs : SM := sSeq (sSet 0 (eC (.str [97, 98, 99, 100, 101, 102, 103, 104, 105, 106, 107, 108, 109, 110, 111, 112, 113, 114, 115, 116, 117, 118, 119, 120, 121, 122]))) (sSeq (sRet (eBin oAdd (eBin oAdd (pVar 0) (eM0 oUpper (eVar 0))) (eC (.str [48, 49, 50, 51, 52, 53, 54, 55, 56, 57, 32, 33, 34, 35, 36, 38, 39, 40, 41, 42, 43, 44, 45, 46, 47, 58, 59, 60, 61, 62, 63, 64, 91, 92, 93, 94, 95, 96, 123, 124, 125, 126, 10])))) (sNil))
noncomputable def c__law_signs : Fn := fnSem 1 0 m__law_signs
theorem u__law_signs {S : Sto} {P : D → Sto → Prop} (h : wps (m__law_signs [.un] S) fun fl _ S1 => match fl with
    | .nx => P .non S1
    | .rt d => P d S1
    | _ => False) : wp (c__law_signs [] S) P := q_fn rfl h
/-! _law_word: slots {'_law_deck_here': 0} -/
noncomputable abbrev m__law_word : SM := sSeq (sRet (eFn c__law_text (aCons (eVar 0) (aCons (eBin oAdd (eC (.int 1)) (eFn c__law_draw (aCons (eVar 0) (aCons (eC (.int 8)) (aNil))))) (aCons (eBin oAdd (eSl (eFn c__law_signs aNil) (oNo) (oSo (eC (.int 26)))) (eC (.str [48, 49, 50, 51, 52, 53, 54, 55, 56, 57]))) (aNil)))))) (sNil)
noncomputable def c__law_word : Fn := fnSem 1 1 m__law_word
theorem u__law_word {x0 : D} {S : Sto} {P : D → Sto → Prop} (h : wps (m__law_word [.v x0] S) fun fl _ S1 => match fl with
    | .nx => P .non S1
    | .rt d => P d S1
    | _ => False) : wp (c__law_word [x0] S) P := q_fn rfl h
/-! _law_number: slots {'_law_deck_here': 0, '_law_way': 1} -/
noncomputable abbrev m__law_number : SM := sSeq (sSet 1 (eFn c__law_draw (aCons (eVar 0) (aCons (eC (.int 4)) (aNil))))) (sSeq (sIf (tOfE (eBin cLt (pVar 1) (eC (.int 2)))) (sSeq (sRet (eBin oSub (eFn c__law_draw (aCons (eVar 0) (aCons (eBin oIx (eFz (fLst (aCons (eC (.int 5)) (aCons (eC (.int 2001)) (aNil))))) (pVar 1)) (aNil)))) (eBin oIx (eFz (fLst (aCons (eC (.int 2)) (aCons (eC (.int 1000)) (aNil))))) (pVar 1)))) (sNil)) (sNil)) (sSeq (sIf (tOfE (eBin cEq (pVar 1) (eC (.int 2)))) (sSeq (sRet (eFn c__law_one (aCons (eVar 0) (aCons (eFz (fLst (aCons (eC (.int 0)) (aCons (eBin oPow (eC (.int 10)) (eC (.int 18))) (aCons (eNeg (eBin oPow (eC (.int 10)) (eC (.int 18)))) (aCons (eBin oSub (eBin oPow (eC (.int 10)) (eC (.int 60))) (eC (.int 1))) (aCons (eBin oSub (eC (.int 1)) (eBin oPow (eC (.int 10)) (eC (.int 60)))) (aNil)))))))) (aNil))))) (sNil)) (sNil)) (sSeq (sRet (eBin oMul (eBin oAdd (eBin oMul (eFn c__law_draw (aCons (eVar 0) (aCons (eBin oPow (eC (.int 10)) (eC (.int 30))) (aNil)))) (eBin oPow (eC (.int 10)) (eC (.int 30)))) (eFn c__law_draw (aCons (eVar 0) (aCons (eBin oPow (eC (.int 10)) (eC (.int 30))) (aNil))))) (eFn c__law_one (aCons (eVar 0) (aCons (eFz (fLst (aCons (eC (.int 1)) (aCons (eNeg (eC (.int 1))) (aNil))))) (aNil)))))) (sNil))))
noncomputable def c__law_number : Fn := fnSem 2 1 m__law_number
theorem u__law_number {x0 : D} {S : Sto} {P : D → Sto → Prop} (h : wps (m__law_number [.v x0, .un] S) fun fl _ S1 => match fl with
    | .nx => P .non S1
    | .rt d => P d S1
    | _ => False) : wp (c__law_number [x0] S) P := q_fn rfl h
/-! _law_atom: slots {'_law_deck_here': 0, '_law_kind': 1} -/
noncomputable abbrev m__law_atom : SM := sSeq (sSet 1 (eFn c__law_draw (aCons (eVar 0) (aCons (eC (.int 4)) (aNil))))) (sSeq (sIf (tOfE (eBin cEq (pVar 1) (eC (.int 0)))) (sSeq (sRet (eTup (aCons (eC (.str [111, 100, 100])) (aNil)))) (sNil)) (sNil)) (sSeq (sIf (tOfE (eBin cEq (pVar 1) (eC (.int 1)))) (sSeq (sRet (eTup (aCons (eC (.str [119, 111, 114, 100])) (aCons (eFn c__law_word (aCons (eVar 0) (aNil))) (aNil))))) (sNil)) (sNil)) (sSeq (sRet (eIf (tOfE (eBin cEq (pVar 1) (eC (.int 2)))) (eTup (aCons (eC (.str [110, 117, 109, 98, 101, 114])) (aCons (eFn c__law_number (aCons (eVar 0) (aNil))) (aNil)))) (eTup (aCons (eC (.str [116, 117, 112, 108, 101])) (aCons (eTup (aNil)) (aNil)))))) (sNil))))
noncomputable def c__law_atom : Fn := fnSem 2 1 m__law_atom
theorem u__law_atom {x0 : D} {S : Sto} {P : D → Sto → Prop} (h : wps (m__law_atom [.v x0, .un] S) fun fl _ S1 => match fl with
    | .nx => P .non S1
    | .rt d => P d S1
    | _ => False) : wp (c__law_atom [x0] S) P := q_fn rfl h
/-! _law_size: slots {'_law_look_here': 0, '_law_item': 1} -/
noncomputable abbrev m__law_size (r_self : Fn) : SM := sSeq (sRet (eIf (tOfE (eBin cEq (eBin oIx (pVar 0) (eC (.int 0))) (eC (.str [116, 117, 112, 108, 101])))) (eBin oAdd (eC (.int 1)) (eCall bSum (aCons (eFz (fLc (iVal (eBin oIx (pVar 0) (eC (.int 1)))) [1] (.nm 1) (tYs) (eFn r_self (aCons (eVar 1) (aNil))))) (aNil)))) (eC (.int 1)))) (sNil)
noncomputable def c__law_size : Nat → Fn
  | 0 => fnSem 2 1 sNo
  | n + 1 => fnSem 2 1 (m__law_size (c__law_size n))
theorem u__law_size {x0 : D} {n : Nat} {S : Sto} {P : D → Sto → Prop} (h : wps (m__law_size (c__law_size n) [.v x0, .un] S) fun fl _ S1 => match fl with
    | .nx => P .non S1
    | .rt d => P d S1
    | _ => False) : wp (c__law_size (n + 1) [x0] S) P := q_fn rfl h
/-! _law_look: slots {'_law_deck_here': 0, '_law_room': 1, '_law_levels': 2, '_law_items': 3, '_law_left': 4, '_law_k': 5, '_law_item': 6} -/
noncomputable abbrev m__law_look (r_self : Fn) : SM := sSeq (sIf (tOo (tOfE (eBin cLt (pVar 1) (eC (.int 2)))) (tOo (tOfE (eBin cLt (pVar 2) (eC (.int 2)))) (tOfE (eBin cEq (eFn c__law_draw (aCons (eVar 0) (aCons (eC (.int 5)) (aNil)))) (eC (.int 0)))))) (sSeq (sRet (eFn c__law_atom (aCons (eVar 0) (aNil)))) (sNil)) (sNil)) (sSeq (sOwn 3 (fLst (aNil))) (sSeq (sSet 4 (eBin oSub (pVar 1) (eC (.int 1)))) (sSeq (sFor (iArgs rng1 (aCons (eFn c__law_draw (aCons (eVar 0) (aCons (eFn c__law_one (aCons (eVar 0) (aCons (eFz (fLst (aCons (eC (.int 3)) (aCons (eC (.int 6)) (aCons (eC (.int 30)) (aNil)))))) (aNil)))) (aNil)))) (aNil))) (.nm 5) (sSeq (sIf (tOfE (eBin cGt (pVar 4) (eC (.int 0)))) (sSeq (sSet 6 (eFn r_self (aCons (eVar 0) (aCons (eBin oAdd (eC (.int 1)) (eFn c__law_draw (aCons (eVar 0) (aCons (eVar 4) (aNil))))) (aCons (eBin oSub (pVar 2) (eC (.int 1))) (aNil)))))) (sSeq (sSet 4 (eBin oSub (pVar 4) (eFn (c__law_size 40) (aCons (eVar 6) (aNil))))) (sSeq (sApp 3 (eVar 6)) (sNil)))) (sNil)) (sNil))) (sSeq (sRet (eTup (aCons (eC (.str [116, 117, 112, 108, 101])) (aCons (eCall bTuple (aCons (pVar 3) (aNil))) (aNil))))) (sNil)))))
noncomputable def c__law_look : Nat → Fn
  | 0 => fnSem 7 3 sNo
  | n + 1 => fnSem 7 3 (m__law_look (c__law_look n))
theorem u__law_look {x0 x1 x2 : D} {n : Nat} {S : Sto} {P : D → Sto → Prop} (h : wps (m__law_look (c__law_look n) [.v x0, .v x1, .v x2, .un, .un, .un, .un] S) fun fl _ S1 => match fl with
    | .nx => P .non S1
    | .rt d => P d S1
    | _ => False) : wp (c__law_look (n + 1) [x0, x1, x2] S) P := q_fn rfl h
/-! _law_any_look: slots {'_law_deck_here': 0, '_law_levels': 1, '_law_many': 2, '_law_k': 3} -/
noncomputable abbrev m__law_any_look : SM := sSeq (sIf (tOfE (eBin cEq (eFn c__law_draw (aCons (eVar 0) (aCons (eC (.int 2)) (aNil)))) (eC (.int 0)))) (sSeq (sRet (eFn (c__law_look 40) (aCons (eVar 0) (aCons (eC (.int 30)) (aCons (eVar 1) (aNil)))))) (sNil)) (sNil)) (sSeq (sSet 2 (eFn c__law_draw (aCons (eVar 0) (aCons (eFn c__law_one (aCons (eVar 0) (aCons (eFz (fLst (aCons (eC (.int 2)) (aCons (eC (.int 6)) (aCons (eC (.int 31)) (aNil)))))) (aNil)))) (aNil))))) (sSeq (sRet (eTup (aCons (eC (.str [114, 111, 119])) (aCons (eCall bTuple (aCons (eFz (fLc (iArgs rng1 (aCons (pVar 2) (aNil))) [3] (.nm 3) (tYs) (eFn (c__law_look 40) (aCons (eVar 0) (aCons (eFn c__law_one (aCons (eVar 0) (aCons (eFz (fLst (aCons (eC (.int 1)) (aCons (eC (.int 4)) (aCons (eC (.int 30)) (aNil)))))) (aNil)))) (aCons (eBin oSub (pVar 1) (eC (.int 1))) (aNil))))))) (aNil))) (aNil))))) (sNil)))
noncomputable def c__law_any_look : Fn := fnSem 4 2 m__law_any_look
theorem u__law_any_look {x0 x1 : D} {S : Sto} {P : D → Sto → Prop} (h : wps (m__law_any_look [.v x0, .v x1, .un, .un] S) fun fl _ S1 => match fl with
    | .nx => P .non S1
    | .rt d => P d S1
    | _ => False) : wp (c__law_any_look [x0, x1] S) P := q_fn rfl h
end Rf

set_option Elab.async false
set_option linter.all false
set_option maxRecDepth 100000
set_option maxHeartbeats 0
namespace Lw
open PySem PySem.Spec PyProof.Rows L2 TL Rf
variable {xp : ExP}
/-! the text -/
def top (i : Nat) : Stmt := PySem.Challenge.pw_maybesame_k01_first_errors_of_looks.main.body.getD i (.Pass ⟨0, 0, 0, 0⟩)
/-! _law_paths: slots {'_law_look_here': 0, '_law_path': 1, '_law_found': 2, '_law_at': 3, '_law_item': 4} -/
noncomputable abbrev m__law_paths (r_self : Fn) : SM := sSeq (sSet 2 (eFz (fLst (aCons (eVar 1) (aNil))))) (sSeq (sIf (tOo (tOfE (eBin cEq (eBin oIx (pVar 0) (eC (.int 0))) (eC (.str [116, 117, 112, 108, 101])))) (tOfE (eBin cEq (eBin oIx (pVar 0) (eC (.int 0))) (eC (.str [114, 111, 119]))))) (sSeq (sFor (iArgs enOf (aCons (eBin oIx (pVar 0) (eC (.int 1))) (aNil))) (.tup [.nm 3, .nm 4]) (sSeq (sSet 2 (eBin oAdd (pVar 2) (eFn r_self (aCons (eVar 4) (aCons (eBin oAdd (pVar 1) (eTup (aCons (eVar 3) (aNil)))) (aNil)))))) (sNil))) (sNil)) (sNil)) (sSeq (sRet (eVar 2)) (sNil)))
noncomputable def c__law_paths : Nat → Fn
  | 0 => fnSem 5 2 sNo
  | n + 1 => fnSem 5 2 (m__law_paths (c__law_paths n))
theorem u__law_paths {x0 x1 : D} {n : Nat} {S : Sto} {P : D → Sto → Prop} (h : wps (m__law_paths (c__law_paths n) [.v x0, .v x1, .un, .un, .un] S) fun fl _ S1 => match fl with
    | .nx => P .non S1
    | .rt d => P d S1
    | _ => False) : wp (c__law_paths (n + 1) [x0, x1] S) P := q_fn rfl h
/-! _law_wrong: slots {'_law_deck_here': 0, '_law_is_outermost': 1, '_law_way': 2, '_law_more': 3} -/
noncomputable abbrev m__law_wrong : SM := sSeq (sSet 2 (eFn c__law_draw (aCons (eVar 0) (aCons (eIf (tTr (pVar 1)) (eC (.int 6)) (eC (.int 8))) (aNil))))) (sSeq (sIf (tOfE (eBin cEq (pVar 2) (eC (.int 0)))) (sSeq (sRet (eFz (fLst (aCons (eFn c__law_one (aCons (eVar 0) (aCons (eFz (fLst (aCons (eC (.int 5)) (aCons (eC .non) (aCons (eC (.bl true)) (aCons (eC (.str [111, 100, 100])) (aCons (eC (.str [])) (aCons (eFz (fLst (aNil))) (aCons (eTup (aNil)) (aCons (eFz (fLst (aCons (eC (.str [111, 100, 100])) (aNil)))) (aCons (eFz (fLst (aCons (eTup (aCons (eC (.str [111, 100, 100])) (aNil))) (aNil)))) (aNil)))))))))))) (aNil)))) (aCons (eC (.str [102, 111, 114, 109])) (aNil)))))) (sNil)) (sNil)) (sSeq (sIf (tOfE (eBin cLt (pVar 2) (eC (.int 4)))) (sSeq (sSet 3 (eFz (fLst (aCons (eTup (aCons (eC (.str [111, 100, 100])) (aCons (eC (.int 1)) (aNil)))) (aCons (eTup (aCons (eC (.str [110, 117, 109, 98, 101, 114])) (aNil))) (aCons (eTup (aCons (eC (.str [119, 111, 114, 100])) (aCons (eC (.str [97])) (aCons (eC (.str [98])) (aNil))))) (aCons (eTup (aCons (eC (.str [110, 117, 109, 98, 101, 114, 115])) (aCons (eC (.int 1)) (aNil)))) (aCons (eTup (aCons (eC .non) (aCons (eC (.int 1)) (aNil)))) (aCons (eTup (aCons (eTup (aCons (eC (.str [111, 100, 100])) (aNil))) (aCons (eC (.int 1)) (aNil)))) (aNil)))))))))) (sSeq (sSet 3 (eBin oAdd (pVar 3) (eFz (fLst (aCons (eTup (aCons (eC (.str [116, 117, 112, 108, 101])) (aCons (eFz (fLst (aCons (eTup (aCons (eC (.str [111, 100, 100])) (aNil))) (aNil)))) (aNil)))) (aCons (eTup (aCons (eC (.str [116, 117, 112, 108, 101])) (aCons (eC .non) (aNil)))) (aCons (eTup (aCons (eC (.str [116, 117, 112, 108, 101])) (aNil))) (aCons (eTup (aCons (eC (.str [114, 111, 119])) (aCons (eC (.str [97])) (aNil)))) (aCons (eTup (aCons (eC (.str [114, 111, 119])) (aCons (eTup (aNil)) (aCons (eTup (aNil)) (aNil))))) (aNil)))))))))) (sSeq (sRet (eFz (fLst (aCons (eFn c__law_one (aCons (eVar 0) (aCons (eVar 3) (aNil)))) (aCons (eC (.str [102, 111, 114, 109])) (aNil)))))) (sNil)))) (sNil)) (sSeq (sIf (tOfE (eBin cEq (pVar 2) (eC (.int 4)))) (sSeq (sRet (eFz (fLst (aCons (eTup (aCons (eC (.str [110, 117, 109, 98, 101, 114])) (aCons (eFn c__law_one (aCons (eVar 0) (aCons (eFz (fLst (aCons (eC (.bl true)) (aCons (eC (.bl false)) (aCons (eC .non) (aCons (eC (.str [55])) (aCons (eTup (aCons (eC (.int 1)) (aNil))) (aNil)))))))) (aNil)))) (aNil)))) (aCons (eC (.str [110, 117, 109, 98, 101, 114])) (aNil)))))) (sNil)) (sNil)) (sSeq (sIf (tOfE (eBin cEq (pVar 2) (eC (.int 5)))) (sSeq (sRet (eFz (fLst (aCons (eTup (aCons (eC (.str [119, 111, 114, 100])) (aCons (eFn c__law_one (aCons (eVar 0) (aCons (eFz (fLst (aCons (eC (.str [])) (aCons (eC (.str [110, 105, 110, 101, 115, 105, 103, 110, 115])) (aCons (eC (.str [65, 98])) (aCons (eC (.str [97, 32, 98])) (aCons (eC (.str [97, 95, 98])) (aCons (eC (.int 5)) (aCons (eC .non) (aNil)))))))))) (aNil)))) (aNil)))) (aCons (eC (.str [119, 111, 114, 100])) (aNil)))))) (sNil)) (sNil)) (sSeq (sRet (eFz (fLst (aCons (eTup (aCons (eC (.str [114, 111, 119])) (aCons (eFn c__law_one (aCons (eVar 0) (aCons (eFz (fLst (aCons (eTup (aNil)) (aCons (eTup (aCons (eTup (aCons (eC (.str [111, 100, 100])) (aNil))) (aNil))) (aCons (eTup (aCons (eC (.int 5)) (aNil))) (aCons (eTup (aCons (eTup (aCons (eC (.str [114, 111, 119])) (aCons (eTup (aNil)) (aNil)))) (aNil))) (aNil))))))) (aNil)))) (aNil)))) (aCons (eC (.str [105, 110, 115, 105, 100, 101])) (aNil)))))) (sNil))))))
noncomputable def c__law_wrong : Fn := fnSem 4 2 m__law_wrong
theorem u__law_wrong {x0 x1 : D} {S : Sto} {P : D → Sto → Prop} (h : wps (m__law_wrong [.v x0, .v x1, .un, .un] S) fun fl _ S1 => match fl with
    | .nx => P .non S1
    | .rt d => P d S1
    | _ => False) : wp (c__law_wrong [x0, x1] S) P := q_fn rfl h
/-! _law_put: slots {'_law_look_here': 0, '_law_path': 1, '_law_thing': 2, '_law_items': 3, '_law_inner': 4} -/
noncomputable abbrev m__law_put (r_self : Fn) : SM := sSeq (sIf (tOfE (eBin cEq (pVar 1) (eTup (aNil)))) (sSeq (sRet (eVar 2)) (sNil)) (sNil)) (sSeq (sSet 3 (eBin oIx (pVar 0) (eC (.int 1)))) (sSeq (sSet 4 (eFn r_self (aCons (eBin oIx (pVar 3) (eBin oIx (pVar 1) (eC (.int 0)))) (aCons (eSl (pVar 1) (oSo (eC (.int 1))) (oNo)) (aCons (eVar 2) (aNil)))))) (sSeq (sRet (eTup (aCons (eBin oIx (pVar 0) (eC (.int 0))) (aCons (eBin oAdd (eBin oAdd (eSl (pVar 3) (oNo) (oSo (eBin oIx (pVar 1) (eC (.int 0))))) (eTup (aCons (eVar 4) (aNil)))) (eSl (pVar 3) (oSo (eBin oAdd (eBin oIx (pVar 1) (eC (.int 0))) (eC (.int 1)))) (oNo))) (aNil))))) (sNil))))
noncomputable def c__law_put : Nat → Fn
  | 0 => fnSem 5 3 sNo
  | n + 1 => fnSem 5 3 (m__law_put (c__law_put n))
theorem u__law_put {x0 x1 x2 : D} {n : Nat} {S : Sto} {P : D → Sto → Prop} (h : wps (m__law_put (c__law_put n) [.v x0, .v x1, .v x2, .un, .un] S) fun fl _ S1 => match fl with
    | .nx => P .non S1
    | .rt d => P d S1
    | _ => False) : wp (c__law_put (n + 1) [x0, x1, x2] S) P := q_fn rfl h
/-! law: slots {'_law_script': 0, '_law_deck_here': 1, '_law_turn': 2, '_law_look_here': 3, '_law_more': 4, '_law_k': 5, '_law_paths_here': 6, '_law_wrongs': 7, '_law_path': 8, '_law_value': 9, '_law_first': 10} -/
noncomputable abbrev m_law : SM := sSeq (sSet 1 (eFn c__law_deck (aCons (eVar 0) (aNil)))) (sSeq (sFor (iArgs rng1 (aCons (eC (.int 2)) (aNil))) (.nm 2) (sSeq (sSet 3 (eFn c__law_any_look (aCons (eVar 1) (aCons (eC (.int 6)) (aNil))))) (sSeq (sIf (tOfE (eBin cIsNot (eFn c_look_error (aCons (eVar 3) (aNil))) (eC .non))) (sSeq (sRet (eC (.bl false))) (sNil)) (sNil)) (sSeq (sIf (tAn (tOfE (eBin cIn (eBin oIx (pVar 3) (eC (.int 0))) (eTup (aCons (eC (.str [116, 117, 112, 108, 101])) (aCons (eC (.str [114, 111, 119])) (aNil)))))) (tOfE (eBin cEq (eFn c__law_draw (aCons (eVar 1) (aCons (eC (.int 2)) (aNil)))) (eC (.int 0))))) (sSeq (sSet 4 (eCall bTuple (aCons (eFz (fLc (iArgs rng1 (aCons (eBin oAdd (eC (.int 1)) (eFn c__law_draw (aCons (eVar 1) (aCons (eC (.int 34)) (aNil))))) (aNil))) [5] (.nm 5) (tYs) (eFn c__law_atom (aCons (eVar 1) (aNil))))) (aNil)))) (sSeq (sSet 3 (eTup (aCons (eBin oIx (pVar 3) (eC (.int 0))) (aCons (eIf (tOfE (eBin cEq (eFn c__law_draw (aCons (eVar 1) (aCons (eC (.int 2)) (aNil)))) (eC (.int 0)))) (eBin oAdd (eBin oIx (pVar 3) (eC (.int 1))) (pVar 4)) (eBin oAdd (pVar 4) (eBin oIx (pVar 3) (eC (.int 1))))) (aNil))))) (sNil))) (sNil)) (sSeq (sSet 6 (eFn (c__law_paths 40) (aCons (eVar 3) (aCons (eTup (aNil)) (aNil))))) (sSeq (sDct 7) (sSeq (sFor (iArgs rng1 (aCons (eBin oAdd (eC (.int 1)) (eFn c__law_draw (aCons (eVar 1) (aCons (eC (.int 3)) (aNil))))) (aNil))) (.nm 5) (sSeq (sSet 8 (eFn c__law_one (aCons (eVar 1) (aCons (eVar 6) (aNil))))) (sSeq (sPutT 7 (eVar 8) (eFn c__law_wrong (aCons (eVar 1) (aCons (eBin cEq (pVar 8) (eTup (aNil))) (aNil))))) (sNil)))) (sSeq (sSet 9 (eVar 3)) (sSeq (sFor (iVal (eFz (fRev (eFz (fCall bSortT (aCons (eFz (fKeysT 7)) (aNil))))))) (.nm 8) (sSeq (sSet 9 (eFn (c__law_put 40) (aCons (eVar 9) (aCons (eVar 8) (aCons (eBin oIx (eGetT 7 (eVar 8)) (eC (.int 0))) (aNil)))))) (sNil))) (sSeq (sSet 10 (eCall bMinT (aCons (eFz (fKeysT 7)) (aNil)))) (sSeq (sIf (tNt (tTr (eFn (c__law_same 40) (aCons (eFn c_look_error (aCons (eVar 9) (aNil))) (aCons (eTup (aCons (eVar 10) (aCons (eBin oIx (eGetT 7 (eVar 10)) (eC (.int 1))) (aNil)))) (aNil)))))) (sSeq (sRet (eC (.bl false))) (sNil)) (sNil)) (sNil)))))))))))) (sSeq (sRet (eC (.bl true))) (sNil)))
noncomputable def c_law : Fn := fnSem 11 1 m_law
theorem u_law {x0 : D} {S : Sto} {P : D → Sto → Prop} (h : wps (m_law [.v x0, .un, .un, .un, .un, .un, .un, .un, .un, .un, .un] S) fun fl _ S1 => match fl with
    | .nx => P .non S1
    | .rt d => P d S1
    | _ => False) : wp (c_law [x0] S) P := q_fn rfl h
end Lw

set_option Elab.async false
set_option linter.all false
set_option maxRecDepth 100000
set_option maxHeartbeats 0
namespace Lw
open PySem PySem.Spec PyProof.Rows L2 TL Rf
structure Fc (w : World) (K : PySem.W.Frag) (mg : Str → Option Value) : Prop where
  d__law_deck : DefAt K mg "_law_deck" (top 17)
  d__law_draw : DefAt K mg "_law_draw" (top 18)
  d__law_one : DefAt K mg "_law_one" (top 19)
  d__law_text : DefAt K mg "_law_text" (top 22)
  d__law_signs : DefAt K mg "_law_signs" (top 21)
  d__law_word : DefAt K mg "_law_word" (top 23)
  d__law_number : DefAt K mg "_law_number" (top 24)
  d__law_atom : DefAt K mg "_law_atom" (top 26)
  d__law_size : DefAt K mg "_law_size" (top 25)
  d__law_look : DefAt K mg "_law_look" (top 27)
  d__law_any_look : DefAt K mg "_law_any_look" (top 28)
  d__law_paths : DefAt K mg "_law_paths" (top 29)
  d_is_number : DefAt K mg "is_number" (top 10)
  d_has_signs : DefAt K mg "has_signs" (top 6)
  d_is_word : DefAt K mg "is_word" (top 7)
  d_own_error : DefAt K mg "own_error" (top 11)
  d_items_of : DefAt K mg "items_of" (top 12)
  d_first_error : DefAt K mg "first_error" (top 13)
  d_size_of : DefAt K mg "size_of" (top 15)
  d_look_error : DefAt K mg "look_error" (top 14)
  d__law_wrong : DefAt K mg "_law_wrong" (top 31)
  d__law_put : DefAt K mg "_law_put" (top 30)
  d__law_same : DefAt K mg "_law_same" (top 20)
  d_law : DefAt K mg "law" (top 32)
  b_abs : mg "abs" = none
  b_all : mg "all" = none
  b_bool : mg "bool" = none
  b_enumerate : mg "enumerate" = none
  b_int : mg "int" = none
  b_isinstance : mg "isinstance" = none
  b_len : mg "len" = none
  b_list : mg "list" = none
  b_max : mg "max" = none
  b_min : mg "min" = none
  b_range : mg "range" = none
  b_sorted : mg "sorted" = none
  b_str : mg "str" = none
  b_sum : mg "sum" = none
  b_tuple : mg "tuple" = none
  b_zip : mg "zip" = none
  k_MAX_DIGITS : ConAt (k0 K mg) "MAX_DIGITS" (.int 150)
  k_MAX_ROW : ConAt (k0 K mg) "MAX_ROW" (.int 30)
  k_MAX_SIZE : ConAt (k0 K mg) "MAX_SIZE" (.int 30)
  k_MAX_WORD : ConAt (k0 K mg) "MAX_WORD" (.int 8)
  k_SIGNS : ConAt (k0 K mg) "SIGNS" (.str [97, 98, 99, 100, 101, 102, 103, 104, 105, 106, 107, 108, 109, 110, 111, 112, 113, 114, 115, 116, 117, 118, 119, 120, 121, 122, 48, 49, 50, 51, 52, 53, 54, 55, 56, 57])
  t_ITEMS : TabK w (k0 K mg) "ITEMS" tab_ITEMS
section
variable {P : Program} {w : World} {K : PySem.W.Frag} {mg : Str → Option Value} {base : Heap}
theorem sc__law_deck : FnScope ["_law_script", "_law_cell"] ["_law_script"] (defScope (top 17)) := ⟨rfl, rfl, rfl, by decide +kernel, rfl, by decide +kernel, by decide +kernel⟩
theorem ok__law_deck (h : Fc w K mg) : FnIn P w K mg base "_law_deck" 1 c__law_deck := by
    obtain ⟨f, fd, F, hm⟩ := h.d__law_deck
    refine ⟨f, fd, _, rf_fn (n := 2) (np := 1) (j := 0) (m := m_deck) F sc__law_deck rfl rfl (fun cdv A outer s H E hr tk pss => ?_), hm, F.kp, F.bindsN (fun _ _ _ _ _ _ us hl => match us, hl with | [_], _ => rfl)⟩
    have sc := sc__law_deck
    exact (sb_cons (ss_ret (se_nw (sf_lst (sae_cons (se_nw (sf_lc rfl sc.nd (si_val md_e (SE.pk (se_sl (sp_var (pv 0)) so_none (so_some se_int)))) (blkOk_by (own := [("_law_cell", 1)]) (by rfl)) (fun _ _ _ _ _ => (sg_name (pg_name sc.nd rfl (by first | exact Or.inl rfl | exact Or.inr rfl)))) (fun _ _ _ _ _ => sts_nil) (fun _ _ _ _ _ => (se_callB bAbs_ok (by rfl) h.b_abs (by rfl) (sa_cons (sp_var (pv 1)) sa_nil rfl) rfl (by decide) (by decide))) (by decide) rfl)) (sae_cons se_int sae_nil rfl) rfl)))) sb_nil)
theorem sc__law_draw : FnScope ["_law_deck_here", "_law_many", "_law_place", "_law_cell", "_law_mixed"] ["_law_deck_here", "_law_many"] (defScope (top 18)) := ⟨rfl, rfl, rfl, by decide +kernel, rfl, by decide +kernel, by decide +kernel⟩
theorem ok__law_draw (h : Fc w K mg) : FnIn P w K mg base "_law_draw" 1 c__law_draw := by
    obtain ⟨f, fd, F, hm⟩ := h.d__law_draw
    refine ⟨f, fd, _, rf_fn (n := 5) (np := 2) (j := 0) (m := m_draw1) F sc__law_draw rfl rfl (fun cdv A outer s H E hr tk pss => ?_), hm, F.kp, F.bindsN (fun _ _ _ _ _ _ us hl => match us, hl with | [_, _], _ => rfl)⟩
    have sc := sc__law_draw
    exact (sb_cons (ss_putO (se_var (pv 0)) se_int (se_bin oAdd_ok (SE.pk (se_ix (sp_var (pv 0)) (SE.pk se_int) rfl)) (SE.pk se_int)) rfl (fun _ => rfl)) (sb_cons (ss_set sc.nd rfl (by first | exact Or.inl rfl | exact Or.inr rfl) rfl (se_bin oMod_ok (SE.pk (se_callT bInt_ok (by rfl) h.b_int (by rfl) (sa_cons (SE.pk (se_ix (sp_var (pv 0)) (SE.pk se_int) rfl)) sa_nil rfl) rfl (by decide) (by decide))) (SE.pk (se_callB (bMax2_ok (by rfl)) (by rfl) h.b_max (by rfl) (sa_cons (SE.pk se_int) (sa_cons (SE.pk (se_callB bLen_ok (by rfl) h.b_len (by rfl) (sa_cons (SE.pk (se_ix (sp_var (pv 0)) (SE.pk se_int) rfl)) sa_nil rfl) rfl (by decide) (by decide))) sa_nil rfl) rfl) rfl (by decide) (by decide)))) rfl) (sb_cons (ss_set sc.nd rfl (by first | exact Or.inl rfl | exact Or.inr rfl) rfl (se_ix (SE.pk (se_bin oAdd_ok (SE.pk (se_ix (sp_var (pv 0)) (SE.pk se_int) rfl)) (SE.pk (se_fz (sf_lst (sae_cons se_int sae_nil rfl)))))) (sp_var (pv 2)) rfl) rfl) (sb_cons (ss_if (st_cmp cGe_ok (sp_var (pv 3)) (SE.pk (se_bin oPow_ok (SE.pk se_int) (SE.pk se_int))) rfl) (sb_cons (ss_putO (se_ix (sp_var (pv 0)) (SE.pk se_int) rfl) (se_var (pv 2)) (se_bin oFdiv_ok (sp_var (pv 3)) (sp_var (pv 1))) rfl (fun _ => rfl)) (sb_cons (ss_ret (se_bin oMod_ok (SE.pk (se_callT bInt_ok (by rfl) h.b_int (by rfl) (sa_cons (sp_var (pv 3)) sa_nil rfl) rfl (by decide) (by decide))) (sp_var (pv 1)))) sb_nil)) sb_nil) (sb_cons (ss_set sc.nd rfl (by first | exact Or.inl rfl | exact Or.inr rfl) rfl (se_bin oPow_ok (SE.pk (se_bin oAdd_ok (SE.pk (se_bin oAdd_ok (SE.pk (se_bin oMod_ok (SE.pk (se_callT bInt_ok (by rfl) h.b_int (by rfl) (sa_cons (sp_var (pv 3)) sa_nil rfl) rfl (by decide) (by decide))) (SE.pk se_int))) (SE.pk (se_bin oMul_ok (SE.pk se_int) (SE.pk (se_ix (sp_var (pv 0)) (SE.pk se_int) rfl)))))) (SE.pk se_int))) (SE.pk se_int)) rfl) (sb_cons (ss_ret (se_bin oMod_ok (SE.pk (se_callT bInt_ok (by rfl) h.b_int (by rfl) (sa_cons (SE.pk (se_bin oMod_ok (SE.pk (se_callT bInt_ok (by rfl) h.b_int (by rfl) (sa_cons (sp_var (pv 4)) sa_nil rfl) rfl (by decide) (by decide))) (SE.pk se_int))) sa_nil rfl) rfl (by decide) (by decide))) (sp_var (pv 1)))) sb_nil))))))
theorem sc__law_one : FnScope ["_law_deck_here", "_law_items"] ["_law_deck_here", "_law_items"] (defScope (top 19)) := ⟨rfl, rfl, rfl, by decide +kernel, rfl, by decide +kernel, by decide +kernel⟩
theorem ok__law_one (h : Fc w K mg) : FnIn P w K mg base "_law_one" 2 c__law_one := by
    obtain ⟨f, fd, F, hm⟩ := h.d__law_one
    refine ⟨f, fd, _, rf_fn (n := 2) (np := 2) (j := 1) (m := m_one) F sc__law_one rfl rfl (fun cdv A outer s H E hr tk pss => ?_), hm, F.kp, F.bindsN (fun _ _ _ _ _ _ us hl => match us, hl with | [_, _], _ => rfl)⟩
    have sc := sc__law_one
    exact (sb_cons (ss_ret (se_ix (sp_var (pv 1)) (SE.pk (se_call (FnIn.at (ok__law_draw h) hr (by omega) rfl rfl rfl rfl rfl) (by rfl) tk (sae_cons (se_var (pv 0)) (sae_cons (se_callB bLen_ok (by rfl) h.b_len (by rfl) (sa_cons (sp_var (pv 1)) sa_nil rfl) rfl (by decide) (by decide)) sae_nil rfl) rfl) rfl (by decide))) rfl)) sb_nil)
theorem sc__law_text : FnScope ["_law_deck_here", "_law_many", "_law_signs_here", "_law_k"] ["_law_deck_here", "_law_many", "_law_signs_here"] (defScope (top 22)) := ⟨rfl, rfl, rfl, by decide +kernel, rfl, by decide +kernel, by decide +kernel⟩
theorem ok__law_text (h : Fc w K mg) : FnIn P w K mg base "_law_text" 3 c__law_text := by
    obtain ⟨f, fd, F, hm⟩ := h.d__law_text
    refine ⟨f, fd, _, rf_fn (n := 4) (np := 3) (j := 2) (m := m__law_text) F sc__law_text rfl rfl (fun cdv A outer s H E hr tk pss => ?_), hm, F.kp, F.bindsN (fun _ _ _ _ _ _ us hl => match us, hl with | [_, _, _], _ => rfl)⟩
    have sc := sc__law_text
    exact (sb_cons (ss_ret (se_join (se_str (l := []) (by decide +kernel)) (SE.pk (se_fz (sf_lc rfl sc.nd (si_rng1 md_e (by rfl) h.b_range (SA.q (sa_cons (sp_var (pv 1)) sa_nil rfl)) rfl) (blkOk_by (own := [("_law_k", 3)]) (by rfl)) (fun _ _ _ _ _ => (sg_name (pg_name sc.nd rfl (by first | exact Or.inl rfl | exact Or.inr rfl)))) (fun _ _ _ _ _ => sts_nil) (fun _ _ _ _ _ => (se_call (FnIn.at (ok__law_one h) hr (by omega) rfl rfl rfl rfl rfl) (by rfl) takes_no (sae_cons (se_var (pv 0)) (sae_cons (se_var (pv 2)) sae_nil rfl) rfl) rfl (by decide))) (by decide) rfl))) rfl rfl rfl)) sb_nil)
theorem sc__law_signs : FnScope ["_law_small"] [] (defScope (top 21)) := ⟨rfl, rfl, rfl, by decide +kernel, rfl, by decide +kernel, by decide +kernel⟩
theorem ok__law_signs (h : Fc w K mg) : FnIn P w K mg base "_law_signs" 1 c__law_signs := by
    obtain ⟨f, fd, F, hm⟩ := h.d__law_signs
    refine ⟨f, fd, _, rf_fn (n := 1) (np := 0) (j := 0) (m := m__law_signs) F sc__law_signs rfl rfl (fun cdv A outer s H E hr tk pss => ?_), hm, F.kp, F.bindsN (fun _ _ _ _ _ _ us hl => match us, hl with | [], _ => rfl)⟩
    have sc := sc__law_signs
    exact (sb_cons (ss_set sc.nd rfl (by first | exact Or.inl rfl | exact Or.inr rfl) rfl (se_str (l := [97, 98, 99, 100, 101, 102, 103, 104, 105, 106, 107, 108, 109, 110, 111, 112, 113, 114, 115, 116, 117, 118, 119, 120, 121, 122]) (by decide +kernel)) rfl) (sb_cons (ss_ret (se_bin oAdd_ok (SE.pk (se_bin oAdd_ok (sp_var (pv 0)) (SE.pk (se_upper (se_var (pv 0)) rfl rfl)))) (SE.pk (se_str (l := [48, 49, 50, 51, 52, 53, 54, 55, 56, 57, 32, 33, 34, 35, 36, 38, 39, 40, 41, 42, 43, 44, 45, 46, 47, 58, 59, 60, 61, 62, 63, 64, 91, 92, 93, 94, 95, 96, 123, 124, 125, 126, 10]) (by decide +kernel))))) sb_nil))
theorem sc__law_word : FnScope ["_law_deck_here"] ["_law_deck_here"] (defScope (top 23)) := ⟨rfl, rfl, rfl, by decide +kernel, rfl, by decide +kernel, by decide +kernel⟩
theorem ok__law_word (h : Fc w K mg) : FnIn P w K mg base "_law_word" 4 c__law_word := by
    obtain ⟨f, fd, F, hm⟩ := h.d__law_word
    refine ⟨f, fd, _, rf_fn (n := 1) (np := 1) (j := 3) (m := m__law_word) F sc__law_word rfl rfl (fun cdv A outer s H E hr tk pss => ?_), hm, F.kp, F.bindsN (fun _ _ _ _ _ _ us hl => match us, hl with | [_], _ => rfl)⟩
    have sc := sc__law_word
    exact (sb_cons (ss_ret (se_call (FnIn.at (ok__law_text h) hr (by omega) rfl rfl rfl rfl rfl) (by rfl) tk (sae_cons (se_var (pv 0)) (sae_cons (se_bin oAdd_ok (SE.pk se_int) (SE.pk (se_call (FnIn.at (ok__law_draw h) hr (by omega) rfl rfl rfl rfl rfl) (by rfl) tk (sae_cons (se_var (pv 0)) (sae_cons se_int sae_nil rfl) rfl) rfl (by decide)))) (sae_cons (se_bin oAdd_ok (SE.pk (se_sl (SE.pk (se_call0 (FnIn.at (ok__law_signs h) hr (by omega) rfl rfl rfl rfl rfl) (by rfl) tk (by decide))) so_none (so_some se_int))) (SE.pk (se_str (l := [48, 49, 50, 51, 52, 53, 54, 55, 56, 57]) (by decide +kernel)))) sae_nil rfl) rfl) rfl) rfl (by decide))) sb_nil)
theorem sc__law_number : FnScope ["_law_deck_here", "_law_way"] ["_law_deck_here"] (defScope (top 24)) := ⟨rfl, rfl, rfl, by decide +kernel, rfl, by decide +kernel, by decide +kernel⟩
theorem ok__law_number (h : Fc w K mg) : FnIn P w K mg base "_law_number" 3 c__law_number := by
    obtain ⟨f, fd, F, hm⟩ := h.d__law_number
    refine ⟨f, fd, _, rf_fn (n := 2) (np := 1) (j := 2) (m := m__law_number) F sc__law_number rfl rfl (fun cdv A outer s H E hr tk pss => ?_), hm, F.kp, F.bindsN (fun _ _ _ _ _ _ us hl => match us, hl with | [_], _ => rfl)⟩
    have sc := sc__law_number
    exact (sb_cons (ss_set sc.nd rfl (by first | exact Or.inl rfl | exact Or.inr rfl) rfl (se_call (FnIn.at (ok__law_draw h) hr (by omega) rfl rfl rfl rfl rfl) (by rfl) tk (sae_cons (se_var (pv 0)) (sae_cons se_int sae_nil rfl) rfl) rfl (by decide)) rfl) (sb_cons (ss_if (st_cmp cLt_ok (sp_var (pv 1)) (SE.pk se_int) rfl) (sb_cons (ss_ret (se_bin oSub_ok (SE.pk (se_call (FnIn.at (ok__law_draw h) hr (by omega) rfl rfl rfl rfl rfl) (by rfl) tk (sae_cons (se_var (pv 0)) (sae_cons (se_ix (SE.pk (se_fz (sf_lst (sae_cons se_int (sae_cons se_int sae_nil rfl) rfl)))) (sp_var (pv 1)) rfl) sae_nil rfl) rfl) rfl (by decide))) (SE.pk (se_ix (SE.pk (se_fz (sf_lst (sae_cons se_int (sae_cons se_int sae_nil rfl) rfl)))) (sp_var (pv 1)) rfl)))) sb_nil) sb_nil) (sb_cons (ss_if (st_cmp (cEq_ok hr.units) (sp_var (pv 1)) (SE.pk se_int) rfl) (sb_cons (ss_ret (se_call (FnIn.at (ok__law_one h) hr (by omega) rfl rfl rfl rfl rfl) (by rfl) tk (sae_cons (se_var (pv 0)) (sae_cons (se_fz (sf_lst (sae_cons se_int (sae_cons (se_bin oPow_ok (SE.pk se_int) (SE.pk se_int)) (sae_cons (se_neg (se_bin oPow_ok (SE.pk se_int) (SE.pk se_int))) (sae_cons (se_bin oSub_ok (SE.pk (se_bin oPow_ok (SE.pk se_int) (SE.pk se_int))) (SE.pk se_int)) (sae_cons (se_bin oSub_ok (SE.pk se_int) (SE.pk (se_bin oPow_ok (SE.pk se_int) (SE.pk se_int)))) sae_nil rfl) rfl) rfl) rfl) rfl))) sae_nil rfl) rfl) rfl (by decide))) sb_nil) sb_nil) (sb_cons (ss_ret (se_bin oMul_ok (SE.pk (se_bin oAdd_ok (SE.pk (se_bin oMul_ok (SE.pk (se_call (FnIn.at (ok__law_draw h) hr (by omega) rfl rfl rfl rfl rfl) (by rfl) tk (sae_cons (se_var (pv 0)) (sae_cons (se_bin oPow_ok (SE.pk se_int) (SE.pk se_int)) sae_nil rfl) rfl) rfl (by decide))) (SE.pk (se_bin oPow_ok (SE.pk se_int) (SE.pk se_int))))) (SE.pk (se_call (FnIn.at (ok__law_draw h) hr (by omega) rfl rfl rfl rfl rfl) (by rfl) tk (sae_cons (se_var (pv 0)) (sae_cons (se_bin oPow_ok (SE.pk se_int) (SE.pk se_int)) sae_nil rfl) rfl) rfl (by decide))))) (SE.pk (se_call (FnIn.at (ok__law_one h) hr (by omega) rfl rfl rfl rfl rfl) (by rfl) tk (sae_cons (se_var (pv 0)) (sae_cons (se_fz (sf_lst (sae_cons se_int (sae_cons (se_neg se_int) sae_nil rfl) rfl))) sae_nil rfl) rfl) rfl (by decide))))) sb_nil))))
theorem sc__law_atom : FnScope ["_law_deck_here", "_law_kind"] ["_law_deck_here"] (defScope (top 26)) := ⟨rfl, rfl, rfl, by decide +kernel, rfl, by decide +kernel, by decide +kernel⟩
theorem ok__law_atom (h : Fc w K mg) : FnIn P w K mg base "_law_atom" 5 c__law_atom := by
    obtain ⟨f, fd, F, hm⟩ := h.d__law_atom
    refine ⟨f, fd, _, rf_fn (n := 2) (np := 1) (j := 4) (m := m__law_atom) F sc__law_atom rfl rfl (fun cdv A outer s H E hr tk pss => ?_), hm, F.kp, F.bindsN (fun _ _ _ _ _ _ us hl => match us, hl with | [_], _ => rfl)⟩
    have sc := sc__law_atom
    exact (sb_cons (ss_set sc.nd rfl (by first | exact Or.inl rfl | exact Or.inr rfl) rfl (se_call (FnIn.at (ok__law_draw h) hr (by omega) rfl rfl rfl rfl rfl) (by rfl) tk (sae_cons (se_var (pv 0)) (sae_cons se_int sae_nil rfl) rfl) rfl (by decide)) rfl) (sb_cons (ss_if (st_cmp (cEq_ok hr.units) (sp_var (pv 1)) (SE.pk se_int) rfl) (sb_cons (ss_ret (se_tup (sae_cons (se_str (l := [111, 100, 100]) (by decide +kernel)) sae_nil rfl))) sb_nil) sb_nil) (sb_cons (ss_if (st_cmp (cEq_ok hr.units) (sp_var (pv 1)) (SE.pk se_int) rfl) (sb_cons (ss_ret (se_tup (sae_cons (se_str (l := [119, 111, 114, 100]) (by decide +kernel)) (sae_cons (se_call (FnIn.at (ok__law_word h) hr (by omega) rfl rfl rfl rfl rfl) (by rfl) tk (sae_cons (se_var (pv 0)) sae_nil rfl) rfl (by decide)) sae_nil rfl) rfl))) sb_nil) sb_nil) (sb_cons (ss_ret (se_if (st_cmp (cEq_ok hr.units) (sp_var (pv 1)) (SE.pk se_int) rfl) (se_tup (sae_cons (se_str (l := [110, 117, 109, 98, 101, 114]) (by decide +kernel)) (sae_cons (se_call (FnIn.at (ok__law_number h) hr (by omega) rfl rfl rfl rfl rfl) (by rfl) tk (sae_cons (se_var (pv 0)) sae_nil rfl) rfl (by decide)) sae_nil rfl) rfl)) (se_tup (sae_cons (se_str (l := [116, 117, 112, 108, 101]) (by decide +kernel)) (sae_cons (se_tup sae_nil) sae_nil rfl) rfl)))) sb_nil))))
theorem sc__law_size : FnScope ["_law_look_here", "_law_item"] ["_law_look_here"] (defScope (top 25)) := ⟨rfl, rfl, rfl, by decide +kernel, rfl, by decide +kernel, by decide +kernel⟩
theorem ok__law_size (h : Fc w K mg) : ∀ n, FnIn P w K mg base "_law_size" (1 + n) (c__law_size n)
  | 0 => by
    obtain ⟨f, fd, F, hm⟩ := h.d__law_size
    refine ⟨f, fd, _, rf_fn (n := 2) (np := 1) (j := 0) (m := sNo) F sc__law_size rfl rfl (fun cdv A outer s H E hr tk pss => ?_), hm, F.kp, F.bindsN (fun _ _ _ _ _ _ us hl => match us, hl with | [_], _ => rfl)⟩
    have sc := sc__law_size
    exact sb_no
  | n + 1 => by
    have self := ok__law_size h n
    obtain ⟨f, fd, F, hm⟩ := h.d__law_size
    refine ⟨f, fd, _, rf_fn (n := 2) (np := 1) (j := 1 + n) (m := m__law_size (c__law_size n)) F sc__law_size rfl rfl (fun cdv A outer s H E hr tk pss => ?_), hm, F.kp, F.bindsN (fun _ _ _ _ _ _ us hl => match us, hl with | [_], _ => rfl)⟩
    have sc := sc__law_size
    exact (sb_cons (ss_ret (se_if (st_cmp (cEq_ok hr.units) (SE.pk (se_ix (sp_var (pv 0)) (SE.pk se_int) rfl)) (SE.pk (se_str (l := [116, 117, 112, 108, 101]) (by decide +kernel))) rfl) (se_bin oAdd_ok (SE.pk se_int) (SE.pk (se_callB (bSum_ok rfl) (by rfl) h.b_sum (by rfl) (sa_cons (SE.pk (se_fz (sf_lc rfl sc.nd (si_val md_e (SE.pk (se_ix (sp_var (pv 0)) (SE.pk se_int) rfl))) (blkOk_by (own := [("_law_item", 1)]) (by rfl)) (fun _ _ _ _ _ => (sg_name (pg_name sc.nd rfl (by first | exact Or.inl rfl | exact Or.inr rfl)))) (fun _ _ _ _ _ => sts_nil) (fun _ _ _ _ _ => (se_call (FnIn.at self hr (by omega) rfl rfl rfl rfl rfl) (by rfl) takes_no (sae_cons (se_var (pv 1)) sae_nil rfl) rfl (by decide))) (by decide) rfl))) sa_nil rfl) rfl (by decide) (by decide)))) se_int)) sb_nil)
theorem sc__law_look : FnScope ["_law_deck_here", "_law_room", "_law_levels", "_law_items", "_law_left", "_law_k", "_law_item"] ["_law_deck_here", "_law_room", "_law_levels"] (defScope (top 27)) := ⟨rfl, rfl, rfl, by decide +kernel, rfl, by decide +kernel, by decide +kernel⟩
theorem ok__law_look (h : Fc w K mg) : ∀ n, FnIn P w K mg base "_law_look" (42 + n) (c__law_look n)
  | 0 => by
    obtain ⟨f, fd, F, hm⟩ := h.d__law_look
    refine ⟨f, fd, _, rf_fn (n := 7) (np := 3) (j := 41) (m := sNo) F sc__law_look rfl rfl (fun cdv A outer s H E hr tk pss => ?_), hm, F.kp, F.bindsN (fun _ _ _ _ _ _ us hl => match us, hl with | [_, _, _], _ => rfl)⟩
    have sc := sc__law_look
    exact sb_no
  | n + 1 => by
    have self := ok__law_look h n
    obtain ⟨f, fd, F, hm⟩ := h.d__law_look
    refine ⟨f, fd, _, rf_fn (n := 7) (np := 3) (j := 42 + n) (m := m__law_look (c__law_look n)) F sc__law_look rfl rfl (fun cdv A outer s H E hr tk pss => ?_), hm, F.kp, F.bindsN (fun _ _ _ _ _ _ us hl => match us, hl with | [_, _, _], _ => rfl)⟩
    have sc := sc__law_look
    exact (sb_cons (ss_if (PW.pt (sw_or (st_cmp cLt_ok (sp_var (pv 1)) (SE.pk se_int) rfl) (sw_or (st_cmp cLt_ok (sp_var (pv 2)) (SE.pk se_int) rfl) (sw_or1 (st_cmp (cEq_ok hr.units) (SE.pk (se_call (FnIn.at (ok__law_draw h) hr (by omega) rfl rfl rfl rfl rfl) (by rfl) tk (sae_cons (se_var (pv 0)) (sae_cons se_int sae_nil rfl) rfl) rfl (by decide))) (SE.pk se_int) rfl))))) (sb_cons (ss_ret (se_call (FnIn.at (ok__law_atom h) hr (by omega) rfl rfl rfl rfl rfl) (by rfl) tk (sae_cons (se_var (pv 0)) sae_nil rfl) rfl (by decide))) sb_nil) sb_nil) (sb_cons (ss_own sc.nd rfl (by first | exact Or.inl rfl | exact Or.inr rfl) rfl (sf_lst sae_nil) rfl) (sb_cons (ss_set sc.nd rfl (by first | exact Or.inl rfl | exact Or.inr rfl) rfl (se_bin oSub_ok (sp_var (pv 1)) (SE.pk se_int)) rfl) (sb_cons (ss_for pss rfl (si_rng1 md_p (by rfl) h.b_range (SAE.q (sae_cons (se_call (FnIn.at (ok__law_draw h) hr (by omega) rfl rfl rfl rfl rfl) (by rfl) tk (sae_cons (se_var (pv 0)) (sae_cons (se_call (FnIn.at (ok__law_one h) hr (by omega) rfl rfl rfl rfl rfl) (by rfl) tk (sae_cons (se_var (pv 0)) (sae_cons (se_fz (sf_lst (sae_cons se_int (sae_cons se_int (sae_cons se_int sae_nil rfl) rfl) rfl))) sae_nil rfl) rfl) rfl (by decide)) sae_nil rfl) rfl) rfl (by decide)) sae_nil rfl)) rfl) (sg_name (pg_name sc.nd rfl (by first | exact Or.inl rfl | exact Or.inr rfl))) (sb_cons (ss_if (st_cmp cGt_ok (sp_var (pv 4)) (SE.pk se_int) rfl) (sb_cons (ss_set sc.nd rfl (by first | exact Or.inl rfl | exact Or.inr rfl) rfl (se_call (FnIn.at self hr (by omega) rfl rfl rfl rfl rfl) (by rfl) tk (sae_cons (se_var (pv 0)) (sae_cons (se_bin oAdd_ok (SE.pk se_int) (SE.pk (se_call (FnIn.at (ok__law_draw h) hr (by omega) rfl rfl rfl rfl rfl) (by rfl) tk (sae_cons (se_var (pv 0)) (sae_cons (se_var (pv 4)) sae_nil rfl) rfl) rfl (by decide)))) (sae_cons (se_bin oSub_ok (sp_var (pv 2)) (SE.pk se_int)) sae_nil rfl) rfl) rfl) rfl (by decide)) rfl) (sb_cons (ss_set sc.nd rfl (by first | exact Or.inl rfl | exact Or.inr rfl) rfl (se_bin oSub_ok (sp_var (pv 4)) (SE.pk (se_call (FnIn.at ((ok__law_size h 40)) hr (by omega) rfl rfl rfl rfl rfl) (by rfl) tk (sae_cons (se_var (pv 6)) sae_nil rfl) rfl (by decide)))) rfl) (sb_cons (ss_app (pv 3) (se_var (pv 6)) rfl rfl) sb_nil))) sb_nil) sb_nil) rfl) (sb_cons (ss_ret (se_tup (sae_cons (se_str (l := [116, 117, 112, 108, 101]) (by decide +kernel)) (sae_cons (se_callT bTuple_ok (by rfl) h.b_tuple (by rfl) (sa_cons (sp_var (pv 3)) sa_nil rfl) rfl (by decide) (by decide)) sae_nil rfl) rfl))) sb_nil)))))
theorem sc__law_any_look : FnScope ["_law_deck_here", "_law_levels", "_law_many", "_law_k"] ["_law_deck_here", "_law_levels"] (defScope (top 28)) := ⟨rfl, rfl, rfl, by decide +kernel, rfl, by decide +kernel, by decide +kernel⟩
theorem ok__law_any_look (h : Fc w K mg) : FnIn P w K mg base "_law_any_look" 83 c__law_any_look := by
    obtain ⟨f, fd, F, hm⟩ := h.d__law_any_look
    refine ⟨f, fd, _, rf_fn (n := 4) (np := 2) (j := 82) (m := m__law_any_look) F sc__law_any_look rfl rfl (fun cdv A outer s H E hr tk pss => ?_), hm, F.kp, F.bindsN (fun _ _ _ _ _ _ us hl => match us, hl with | [_, _], _ => rfl)⟩
    have sc := sc__law_any_look
    exact (sb_cons (ss_if (st_cmp (cEq_ok hr.units) (SE.pk (se_call (FnIn.at (ok__law_draw h) hr (by omega) rfl rfl rfl rfl rfl) (by rfl) tk (sae_cons (se_var (pv 0)) (sae_cons se_int sae_nil rfl) rfl) rfl (by decide))) (SE.pk se_int) rfl) (sb_cons (ss_ret (se_call (FnIn.at ((ok__law_look h 40)) hr (by omega) rfl rfl rfl rfl rfl) (by rfl) tk (sae_cons (se_var (pv 0)) (sae_cons se_int (sae_cons (se_var (pv 1)) sae_nil rfl) rfl) rfl) rfl (by decide))) sb_nil) sb_nil) (sb_cons (ss_set sc.nd rfl (by first | exact Or.inl rfl | exact Or.inr rfl) rfl (se_call (FnIn.at (ok__law_draw h) hr (by omega) rfl rfl rfl rfl rfl) (by rfl) tk (sae_cons (se_var (pv 0)) (sae_cons (se_call (FnIn.at (ok__law_one h) hr (by omega) rfl rfl rfl rfl rfl) (by rfl) tk (sae_cons (se_var (pv 0)) (sae_cons (se_fz (sf_lst (sae_cons se_int (sae_cons se_int (sae_cons se_int sae_nil rfl) rfl) rfl))) sae_nil rfl) rfl) rfl (by decide)) sae_nil rfl) rfl) rfl (by decide)) rfl) (sb_cons (ss_ret (se_tup (sae_cons (se_str (l := [114, 111, 119]) (by decide +kernel)) (sae_cons (se_callT bTuple_ok (by rfl) h.b_tuple (by rfl) (sa_cons (SE.pk (se_fz (sf_lc rfl sc.nd (si_rng1 md_e (by rfl) h.b_range (SA.q (sa_cons (sp_var (pv 2)) sa_nil rfl)) rfl) (blkOk_by (own := [("_law_k", 3)]) (by rfl)) (fun _ _ _ _ _ => (sg_name (pg_name sc.nd rfl (by first | exact Or.inl rfl | exact Or.inr rfl)))) (fun _ _ _ _ _ => sts_nil) (fun _ _ _ _ _ => (se_call (FnIn.at ((ok__law_look h 40)) hr (by omega) rfl rfl rfl rfl rfl) (by rfl) takes_no (sae_cons (se_var (pv 0)) (sae_cons (se_call (FnIn.at (ok__law_one h) hr (by omega) rfl rfl rfl rfl rfl) (by rfl) takes_no (sae_cons (se_var (pv 0)) (sae_cons (se_fz (sf_lst (sae_cons se_int (sae_cons se_int (sae_cons se_int sae_nil rfl) rfl) rfl))) sae_nil rfl) rfl) rfl (by decide)) (sae_cons (se_bin oSub_ok (sp_var (pv 1)) (SE.pk se_int)) sae_nil rfl) rfl) rfl) rfl (by decide))) (by decide) rfl))) sa_nil rfl) rfl (by decide) (by decide)) sae_nil rfl) rfl))) sb_nil)))
theorem sc__law_paths : FnScope ["_law_look_here", "_law_path", "_law_found", "_law_at", "_law_item"] ["_law_look_here", "_law_path"] (defScope (top 29)) := ⟨rfl, rfl, rfl, by decide +kernel, rfl, by decide +kernel, by decide +kernel⟩
theorem ok__law_paths (h : Fc w K mg) : ∀ n, FnIn P w K mg base "_law_paths" (1 + n) (c__law_paths n)
  | 0 => by
    obtain ⟨f, fd, F, hm⟩ := h.d__law_paths
    refine ⟨f, fd, _, rf_fn (n := 5) (np := 2) (j := 0) (m := sNo) F sc__law_paths rfl rfl (fun cdv A outer s H E hr tk pss => ?_), hm, F.kp, F.bindsN (fun _ _ _ _ _ _ us hl => match us, hl with | [_, _], _ => rfl)⟩
    have sc := sc__law_paths
    exact sb_no
  | n + 1 => by
    have self := ok__law_paths h n
    obtain ⟨f, fd, F, hm⟩ := h.d__law_paths
    refine ⟨f, fd, _, rf_fn (n := 5) (np := 2) (j := 1 + n) (m := m__law_paths (c__law_paths n)) F sc__law_paths rfl rfl (fun cdv A outer s H E hr tk pss => ?_), hm, F.kp, F.bindsN (fun _ _ _ _ _ _ us hl => match us, hl with | [_, _], _ => rfl)⟩
    have sc := sc__law_paths
    exact (sb_cons (ss_set sc.nd rfl (by first | exact Or.inl rfl | exact Or.inr rfl) rfl (se_fz (sf_lst (sae_cons (se_var (pv 1)) sae_nil rfl))) rfl) (sb_cons (ss_if (PW.pt (sw_or (st_cmp (cEq_ok hr.units) (SE.pk (se_ix (sp_var (pv 0)) (SE.pk se_int) rfl)) (SE.pk (se_str (l := [116, 117, 112, 108, 101]) (by decide +kernel))) rfl) (sw_or1 (st_cmp (cEq_ok hr.units) (SE.pk (se_ix (sp_var (pv 0)) (SE.pk se_int) rfl)) (SE.pk (se_str (l := [114, 111, 119]) (by decide +kernel))) rfl)))) (sb_cons (ss_for pss rfl (si_enum md_p (by rfl) h.b_enumerate (SAE.q (sae_cons (se_ix (sp_var (pv 0)) (SE.pk se_int) rfl) sae_nil rfl)) rfl) (sg_tup rfl (sgs_cons (sg_name (pg_name sc.nd rfl (by first | exact Or.inl rfl | exact Or.inr rfl))) (sgs_cons (sg_name (pg_name sc.nd rfl (by first | exact Or.inl rfl | exact Or.inr rfl))) sgs_nil rfl) rfl) rfl rfl) (sb_cons (ss_set sc.nd rfl (by first | exact Or.inl rfl | exact Or.inr rfl) rfl (se_bin oAdd_ok (sp_var (pv 2)) (SE.pk (se_call (FnIn.at self hr (by omega) rfl rfl rfl rfl rfl) (by rfl) tk (sae_cons (se_var (pv 4)) (sae_cons (se_bin oAdd_ok (sp_var (pv 1)) (SE.pk (se_tup (sae_cons (se_var (pv 3)) sae_nil rfl)))) sae_nil rfl) rfl) rfl (by decide)))) rfl) sb_nil) rfl) sb_nil) sb_nil) (sb_cons (ss_ret (se_var (pv 2))) sb_nil)))
theorem sc_is_number : FnScope ["value"] ["value"] (defScope (top 10)) := ⟨rfl, rfl, rfl, by decide +kernel, rfl, by decide +kernel, by decide +kernel⟩
theorem ok_is_number (h : Fc w K mg) : FnIn P w K mg base "is_number" 1 c_is_number := by
    obtain ⟨f, fd, F, hm⟩ := h.d_is_number
    refine ⟨f, fd, _, rf_fn (n := 1) (np := 1) (j := 0) (m := m_is_number) F sc_is_number rfl rfl (fun cdv A outer s H E hr tk pss => ?_), hm, F.kp, F.bindsN (fun _ _ _ _ _ _ us hl => match us, hl with | [_], _ => rfl)⟩
    have sc := sc_is_number
    exact (sb_cons (ss_if (PW.pt (sw_or (st_not (st_truth (SE.pk (se_callB bIsI_ok (by rfl) h.b_isinstance (by rfl) (sa_cons (sp_var (pv 0)) (sa_cons (SE.pk (se_ty rfl h.b_int rfl (by decide) (by decide))) sa_nil rfl) rfl) rfl (by decide) (by decide))) rfl)) (sw_or (st_truth (SE.pk (se_callB bIsI_ok (by rfl) h.b_isinstance (by rfl) (sa_cons (sp_var (pv 0)) (sa_cons (SE.pk (se_ty rfl h.b_bool rfl (by decide) (by decide))) sa_nil rfl) rfl) rfl (by decide) (by decide))) rfl) (sw_or1 (st_cmp cGt_ok (SE.pk (se_bits (se_var (pv 0)) rfl rfl)) (SE.pk (se_bin oMul_ok (SE.pk se_int) (SE.pk (se_con h.k_MAX_DIGITS rfl (by decide))))) rfl))))) (sb_cons (ss_ret se_bl) sb_nil) sb_nil) (sb_cons (ss_ret (se_cmp cLe_ok (SE.pk (se_callB bLen_ok (by rfl) h.b_len (by rfl) (sa_cons (SE.pk (se_callT bStr_ok (by rfl) h.b_str (by rfl) (sa_cons (SE.pk (se_callB bAbs_ok (by rfl) h.b_abs (by rfl) (sa_cons (sp_var (pv 0)) sa_nil rfl) rfl (by decide) (by decide))) sa_nil rfl) rfl (by decide) (by decide))) sa_nil rfl) rfl (by decide) (by decide))) (SE.pk (se_con h.k_MAX_DIGITS rfl (by decide))) rfl)) sb_nil))
theorem sc_has_signs : FnScope ["value", "most", "sign"] ["value", "most"] (defScope (top 6)) := ⟨rfl, rfl, rfl, by decide +kernel, rfl, by decide +kernel, by decide +kernel⟩
theorem ok_has_signs (h : Fc w K mg) : FnIn P w K mg base "has_signs" 1 c_has_signs := by
    obtain ⟨f, fd, F, hm⟩ := h.d_has_signs
    refine ⟨f, fd, _, rf_fn (n := 3) (np := 2) (j := 0) (m := m_has_signs) F sc_has_signs rfl rfl (fun cdv A outer s H E hr tk pss => ?_), hm, F.kp, F.bindsN (fun _ _ _ _ _ _ us hl => match us, hl with | [_, _], _ => rfl)⟩
    have sc := sc_has_signs
    exact (sb_cons (ss_ret (se_and (se_callB bIsI_ok (by rfl) h.b_isinstance (by rfl) (sa_cons (sp_var (pv 0)) (sa_cons (SE.pk (se_ty rfl h.b_str rfl (by decide) (by decide))) sa_nil rfl) rfl) rfl (by decide) (by decide)) (se_and (se_chain cLe_ok cLe_ok (SE.pk se_int) (SE.pk (se_callB bLen_ok (by rfl) h.b_len (by rfl) (sa_cons (sp_var (pv 0)) sa_nil rfl) rfl (by decide) (by decide))) (sp_var (pv 1)) rfl) (se_one (se_callB (bAll_ok rfl) (by rfl) h.b_all (by rfl) (sa_cons (SE.pk (se_fz (sf_lc rfl sc.nd (si_val md_e (sp_var (pv 0))) (blkOk_by (own := [("sign", 2)]) (by rfl)) (fun _ _ _ _ _ => (sg_name (pg_name sc.nd rfl (by first | exact Or.inl rfl | exact Or.inr rfl)))) (fun _ _ _ _ _ => sts_nil) (fun _ _ _ _ _ => (se_cmp cIn_ok (sp_var (pv 2)) (SE.pk (se_con h.k_SIGNS rfl (by decide))) rfl)) (by decide) rfl))) sa_nil rfl) rfl (by decide) (by decide)))))) sb_nil)
theorem sc_is_word : FnScope ["value"] ["value"] (defScope (top 7)) := ⟨rfl, rfl, rfl, by decide +kernel, rfl, by decide +kernel, by decide +kernel⟩
theorem ok_is_word (h : Fc w K mg) : FnIn P w K mg base "is_word" 2 c_is_word := by
    obtain ⟨f, fd, F, hm⟩ := h.d_is_word
    refine ⟨f, fd, _, rf_fn (n := 1) (np := 1) (j := 1) (m := m_is_word) F sc_is_word rfl rfl (fun cdv A outer s H E hr tk pss => ?_), hm, F.kp, F.bindsN (fun _ _ _ _ _ _ us hl => match us, hl with | [_], _ => rfl)⟩
    have sc := sc_is_word
    exact (sb_cons (ss_ret (se_call (FnIn.at (ok_has_signs h) hr (by omega) rfl rfl rfl rfl rfl) (by rfl) tk (sae_cons (se_var (pv 0)) (sae_cons (se_con h.k_MAX_WORD rfl (by decide)) sae_nil rfl) rfl) rfl (by decide))) sb_nil)
theorem sc_own_error : FnScope ["value", "inside", "kind"] ["value", "inside"] (defScope (top 11)) := ⟨rfl, rfl, rfl, by decide +kernel, rfl, by decide +kernel, by decide +kernel⟩
theorem ok_own_error (h : Fc w K mg) : FnIn P w K mg base "own_error" 3 c_own_error := by
    obtain ⟨f, fd, F, hm⟩ := h.d_own_error
    refine ⟨f, fd, _, rf_fn (n := 3) (np := 2) (j := 2) (m := m_own_error) F sc_own_error rfl rfl (fun cdv A outer s H E hr tk pss => ?_), hm, F.kp, F.bindsN (fun _ _ _ _ _ _ us hl => match us, hl with | [_, _], _ => rfl)⟩
    have sc := sc_own_error
    exact (sb_cons (ss_if (PW.pt (sw_or (st_not (st_truth (SE.pk (se_callB bIsI_ok (by rfl) h.b_isinstance (by rfl) (sa_cons (sp_var (pv 0)) (sa_cons (SE.pk (se_ty rfl h.b_tuple rfl (by decide) (by decide))) sa_nil rfl) rfl) rfl (by decide) (by decide))) rfl)) (sw_or (st_cmp (cEq_ok hr.units) (SE.pk (se_callB bLen_ok (by rfl) h.b_len (by rfl) (sa_cons (sp_var (pv 0)) sa_nil rfl) rfl (by decide) (by decide))) (SE.pk se_int) rfl) (sw_or1 (st_not (st_truth (SE.pk (se_callB bIsI_ok (by rfl) h.b_isinstance (by rfl) (sa_cons (SE.pk (se_ix (sp_var (pv 0)) (SE.pk se_int) rfl)) (sa_cons (SE.pk (se_ty rfl h.b_str rfl (by decide) (by decide))) sa_nil rfl) rfl) rfl (by decide) (by decide))) rfl)))))) (sb_cons (ss_ret (se_str (l := [102, 111, 114, 109]) (by decide +kernel))) sb_nil) sb_nil) (sb_cons (ss_set sc.nd rfl (by first | exact Or.inl rfl | exact Or.inr rfl) rfl (se_ix (sp_var (pv 0)) (SE.pk se_int) rfl) rfl) (sb_cons (ss_if (PW.pt (sw_or (st_notInT h.t_ITEMS rfl (by decide) (se_var (pv 2))) (sw_or1 (st_cmp (cNe_ok hr.units) (SE.pk (se_callB bLen_ok (by rfl) h.b_len (by rfl) (sa_cons (sp_var (pv 0)) sa_nil rfl) rfl (by decide) (by decide))) (SE.pk (se_ixT h.t_ITEMS rfl (by decide) (se_var (pv 2)) rfl)) rfl)))) (sb_cons (ss_ret (se_str (l := [102, 111, 114, 109]) (by decide +kernel))) sb_nil) sb_nil) (sb_cons (ss_if (st_cmp (cEq_ok hr.units) (sp_var (pv 2)) (SE.pk (se_str (l := [110, 117, 109, 98, 101, 114]) (by decide +kernel))) rfl) (sb_cons (ss_ret (se_if (st_truth (SE.pk (se_call (FnIn.at (ok_is_number h) hr (by omega) rfl rfl rfl rfl rfl) (by rfl) tk (sae_cons (se_ix (sp_var (pv 0)) (SE.pk se_int) rfl) sae_nil rfl) rfl (by decide))) rfl) se_non (se_str (l := [110, 117, 109, 98, 101, 114]) (by decide +kernel)))) sb_nil) sb_nil) (sb_cons (ss_if (st_cmp (cEq_ok hr.units) (sp_var (pv 2)) (SE.pk (se_str (l := [119, 111, 114, 100]) (by decide +kernel))) rfl) (sb_cons (ss_ret (se_if (st_truth (SE.pk (se_call (FnIn.at (ok_is_word h) hr (by omega) rfl rfl rfl rfl rfl) (by rfl) tk (sae_cons (se_ix (sp_var (pv 0)) (SE.pk se_int) rfl) sae_nil rfl) rfl (by decide))) rfl) se_non (se_str (l := [119, 111, 114, 100]) (by decide +kernel)))) sb_nil) sb_nil) (sb_cons (ss_if (st_cmp (cEq_ok hr.units) (sp_var (pv 2)) (SE.pk (se_str (l := [111, 100, 100]) (by decide +kernel))) rfl) (sb_cons (ss_ret se_non) sb_nil) sb_nil) (sb_cons (ss_if (st_not (st_truth (SE.pk (se_callB bIsI_ok (by rfl) h.b_isinstance (by rfl) (sa_cons (SE.pk (se_ix (sp_var (pv 0)) (SE.pk se_int) rfl)) (sa_cons (SE.pk (se_ty rfl h.b_tuple rfl (by decide) (by decide))) sa_nil rfl) rfl) rfl (by decide) (by decide))) rfl)) (sb_cons (ss_ret (se_str (l := [102, 111, 114, 109]) (by decide +kernel))) sb_nil) sb_nil) (sb_cons (ss_ret (se_if (PW.pt (sw_and (st_cmp (cEq_ok hr.units) (sp_var (pv 2)) (SE.pk (se_str (l := [114, 111, 119]) (by decide +kernel))) rfl) (sw_and1 (st_truth (sp_var (pv 1)) rfl)))) (se_str (l := [105, 110, 115, 105, 100, 101]) (by decide +kernel)) se_non)) sb_nil))))))))
theorem sc_items_of : FnScope ["look"] ["look"] (defScope (top 12)) := ⟨rfl, rfl, rfl, by decide +kernel, rfl, by decide +kernel, by decide +kernel⟩
theorem ok_items_of (h : Fc w K mg) : FnIn P w K mg base "items_of" 1 c_items_of := by
    obtain ⟨f, fd, F, hm⟩ := h.d_items_of
    refine ⟨f, fd, _, rf_fn (n := 1) (np := 1) (j := 0) (m := m_items_of) F sc_items_of rfl rfl (fun cdv A outer s H E hr tk pss => ?_), hm, F.kp, F.bindsN (fun _ _ _ _ _ _ us hl => match us, hl with | [_], _ => rfl)⟩
    have sc := sc_items_of
    exact (sb_cons (ss_ret (se_if (PW.pt (sw_or (st_cmp (cEq_ok hr.units) (SE.pk (se_ix (sp_var (pv 0)) (SE.pk se_int) rfl)) (SE.pk (se_str (l := [116, 117, 112, 108, 101]) (by decide +kernel))) rfl) (sw_or1 (st_cmp (cEq_ok hr.units) (SE.pk (se_ix (sp_var (pv 0)) (SE.pk se_int) rfl)) (SE.pk (se_str (l := [114, 111, 119]) (by decide +kernel))) rfl)))) (se_ix (sp_var (pv 0)) (SE.pk se_int) rfl) (se_tup sae_nil))) sb_nil)
theorem sc_first_error : FnScope ["value", "path", "why", "at", "item", "found"] ["value", "path"] (defScope (top 13)) := ⟨rfl, rfl, rfl, by decide +kernel, rfl, by decide +kernel, by decide +kernel⟩
theorem ok_first_error (h : Fc w K mg) : ∀ n, FnIn P w K mg base "first_error" (4 + n) (c_first_error n)
  | 0 => by
    obtain ⟨f, fd, F, hm⟩ := h.d_first_error
    refine ⟨f, fd, _, rf_fn (n := 6) (np := 2) (j := 3) (m := sNo) F sc_first_error rfl rfl (fun cdv A outer s H E hr tk pss => ?_), hm, F.kp, F.bindsN (fun _ _ _ _ _ _ us hl => match us, hl with | [_, _], _ => rfl)⟩
    have sc := sc_first_error
    exact sb_no
  | n + 1 => by
    have self := ok_first_error h n
    obtain ⟨f, fd, F, hm⟩ := h.d_first_error
    refine ⟨f, fd, _, rf_fn (n := 6) (np := 2) (j := 4 + n) (m := m_first_error (c_first_error n)) F sc_first_error rfl rfl (fun cdv A outer s H E hr tk pss => ?_), hm, F.kp, F.bindsN (fun _ _ _ _ _ _ us hl => match us, hl with | [_, _], _ => rfl)⟩
    have sc := sc_first_error
    exact (sb_cons (ss_set sc.nd rfl (by first | exact Or.inl rfl | exact Or.inr rfl) rfl (se_call (FnIn.at (ok_own_error h) hr (by omega) rfl rfl rfl rfl rfl) (by rfl) tk (sae_cons (se_var (pv 0)) (sae_cons (se_cmp (cNe_ok hr.units) (sp_var (pv 1)) (SE.pk (se_tup sae_nil)) rfl) sae_nil rfl) rfl) rfl (by decide)) rfl) (sb_cons (ss_if (st_cmp cIsNot_ok (sp_var (pv 2)) (SE.pk se_non) rfl) (sb_cons (ss_ret (se_tup (sae_cons (se_var (pv 1)) (sae_cons (se_var (pv 2)) sae_nil rfl) rfl))) sb_nil) sb_nil) (sb_cons (ss_for pss rfl (si_enum md_p (by rfl) h.b_enumerate (SAE.q (sae_cons (se_call (FnIn.at (ok_items_of h) hr (by omega) rfl rfl rfl rfl rfl) (by rfl) tk (sae_cons (se_var (pv 0)) sae_nil rfl) rfl (by decide)) sae_nil rfl)) rfl) (sg_tup rfl (sgs_cons (sg_name (pg_name sc.nd rfl (by first | exact Or.inl rfl | exact Or.inr rfl))) (sgs_cons (sg_name (pg_name sc.nd rfl (by first | exact Or.inl rfl | exact Or.inr rfl))) sgs_nil rfl) rfl) rfl rfl) (sb_cons (ss_set sc.nd rfl (by first | exact Or.inl rfl | exact Or.inr rfl) rfl (se_call (FnIn.at self hr (by omega) rfl rfl rfl rfl rfl) (by rfl) tk (sae_cons (se_var (pv 4)) (sae_cons (se_bin oAdd_ok (sp_var (pv 1)) (SE.pk (se_tup (sae_cons (se_var (pv 3)) sae_nil rfl)))) sae_nil rfl) rfl) rfl (by decide)) rfl) (sb_cons (ss_if (st_cmp cIsNot_ok (sp_var (pv 5)) (SE.pk se_non) rfl) (sb_cons (ss_ret (se_var (pv 5))) sb_nil) sb_nil) sb_nil)) rfl) (sb_cons (ss_ret se_non) sb_nil))))
theorem sc_size_of : FnScope ["look", "item"] ["look"] (defScope (top 15)) := ⟨rfl, rfl, rfl, by decide +kernel, rfl, by decide +kernel, by decide +kernel⟩
theorem ok_size_of (h : Fc w K mg) : ∀ n, FnIn P w K mg base "size_of" (2 + n) (c_size_of n)
  | 0 => by
    obtain ⟨f, fd, F, hm⟩ := h.d_size_of
    refine ⟨f, fd, _, rf_fn (n := 2) (np := 1) (j := 1) (m := sNo) F sc_size_of rfl rfl (fun cdv A outer s H E hr tk pss => ?_), hm, F.kp, F.bindsN (fun _ _ _ _ _ _ us hl => match us, hl with | [_], _ => rfl)⟩
    have sc := sc_size_of
    exact sb_no
  | n + 1 => by
    have self := ok_size_of h n
    obtain ⟨f, fd, F, hm⟩ := h.d_size_of
    refine ⟨f, fd, _, rf_fn (n := 2) (np := 1) (j := 2 + n) (m := m_size_of (c_size_of n)) F sc_size_of rfl rfl (fun cdv A outer s H E hr tk pss => ?_), hm, F.kp, F.bindsN (fun _ _ _ _ _ _ us hl => match us, hl with | [_], _ => rfl)⟩
    have sc := sc_size_of
    exact (sb_cons (ss_ret (se_bin oAdd_ok (SE.pk se_int) (SE.pk (se_callB (bSum_ok rfl) (by rfl) h.b_sum (by rfl) (sa_cons (SE.pk (se_fz (sf_lc rfl sc.nd (si_val md_e (SE.pk (se_call (FnIn.at (ok_items_of h) hr (by omega) rfl rfl rfl rfl rfl) (by rfl) tk (sae_cons (se_var (pv 0)) sae_nil rfl) rfl (by decide)))) (blkOk_by (own := [("item", 1)]) (by rfl)) (fun _ _ _ _ _ => (sg_name (pg_name sc.nd rfl (by first | exact Or.inl rfl | exact Or.inr rfl)))) (fun _ _ _ _ _ => sts_nil) (fun _ _ _ _ _ => (se_call (FnIn.at self hr (by omega) rfl rfl rfl rfl rfl) (by rfl) takes_no (sae_cons (se_var (pv 1)) sae_nil rfl) rfl (by decide))) (by decide) rfl))) sa_nil rfl) rfl (by decide) (by decide))))) sb_nil)
theorem sc_look_error : FnScope ["value", "found", "at", "item"] ["value"] (defScope (top 14)) := ⟨rfl, rfl, rfl, by decide +kernel, rfl, by decide +kernel, by decide +kernel⟩
theorem ok_look_error (h : Fc w K mg) : FnIn P w K mg base "look_error" 45 c_look_error := by
    obtain ⟨f, fd, F, hm⟩ := h.d_look_error
    refine ⟨f, fd, _, rf_fn (n := 4) (np := 1) (j := 44) (m := m_look_error) F sc_look_error rfl rfl (fun cdv A outer s H E hr tk pss => ?_), hm, F.kp, F.bindsN (fun _ _ _ _ _ _ us hl => match us, hl with | [_], _ => rfl)⟩
    have sc := sc_look_error
    exact (sb_cons (ss_set sc.nd rfl (by first | exact Or.inl rfl | exact Or.inr rfl) rfl (se_call (FnIn.at ((ok_first_error h 40)) hr (by omega) rfl rfl rfl rfl rfl) (by rfl) tk (sae_cons (se_var (pv 0)) (sae_cons (se_tup sae_nil) sae_nil rfl) rfl) rfl (by decide)) rfl) (sb_cons (ss_if (st_cmp cIsNot_ok (sp_var (pv 1)) (SE.pk se_non) rfl) (sb_cons (ss_ret (se_var (pv 1))) sb_nil) sb_nil) (sb_cons (ss_if (st_cmp (cNe_ok hr.units) (SE.pk (se_ix (sp_var (pv 0)) (SE.pk se_int) rfl)) (SE.pk (se_str (l := [114, 111, 119]) (by decide +kernel))) rfl) (sb_cons (ss_ret (se_if (st_cmp cGt_ok (SE.pk (se_call (FnIn.at ((ok_size_of h 40)) hr (by omega) rfl rfl rfl rfl rfl) (by rfl) tk (sae_cons (se_var (pv 0)) sae_nil rfl) rfl (by decide))) (SE.pk (se_con h.k_MAX_SIZE rfl (by decide))) rfl) (se_tup (sae_cons (se_tup sae_nil) (sae_cons (se_str (l := [115, 105, 122, 101]) (by decide +kernel)) sae_nil rfl) rfl)) se_non)) sb_nil) sb_nil) (sb_cons (ss_if (st_cmp cGt_ok (SE.pk (se_callB bLen_ok (by rfl) h.b_len (by rfl) (sa_cons (SE.pk (se_ix (sp_var (pv 0)) (SE.pk se_int) rfl)) sa_nil rfl) rfl (by decide) (by decide))) (SE.pk (se_con h.k_MAX_ROW rfl (by decide))) rfl) (sb_cons (ss_ret (se_tup (sae_cons (se_tup sae_nil) (sae_cons (se_str (l := [108, 111, 110, 103]) (by decide +kernel)) sae_nil rfl) rfl))) sb_nil) sb_nil) (sb_cons (ss_for pss rfl (si_enum md_p (by rfl) h.b_enumerate (SAE.q (sae_cons (se_ix (sp_var (pv 0)) (SE.pk se_int) rfl) sae_nil rfl)) rfl) (sg_tup rfl (sgs_cons (sg_name (pg_name sc.nd rfl (by first | exact Or.inl rfl | exact Or.inr rfl))) (sgs_cons (sg_name (pg_name sc.nd rfl (by first | exact Or.inl rfl | exact Or.inr rfl))) sgs_nil rfl) rfl) rfl rfl) (sb_cons (ss_if (st_cmp cGt_ok (SE.pk (se_call (FnIn.at ((ok_size_of h 40)) hr (by omega) rfl rfl rfl rfl rfl) (by rfl) tk (sae_cons (se_var (pv 3)) sae_nil rfl) rfl (by decide))) (SE.pk (se_con h.k_MAX_SIZE rfl (by decide))) rfl) (sb_cons (ss_ret (se_tup (sae_cons (se_tup (sae_cons (se_var (pv 2)) sae_nil rfl)) (sae_cons (se_str (l := [115, 105, 122, 101]) (by decide +kernel)) sae_nil rfl) rfl))) sb_nil) sb_nil) sb_nil) rfl) (sb_cons (ss_ret se_non) sb_nil))))))
theorem sc__law_wrong : FnScope ["_law_deck_here", "_law_is_outermost", "_law_way", "_law_more"] ["_law_deck_here", "_law_is_outermost"] (defScope (top 31)) := ⟨rfl, rfl, rfl, by decide +kernel, rfl, by decide +kernel, by decide +kernel⟩
theorem ok__law_wrong (h : Fc w K mg) : FnIn P w K mg base "_law_wrong" 3 c__law_wrong := by
    obtain ⟨f, fd, F, hm⟩ := h.d__law_wrong
    refine ⟨f, fd, _, rf_fn (n := 4) (np := 2) (j := 2) (m := m__law_wrong) F sc__law_wrong rfl rfl (fun cdv A outer s H E hr tk pss => ?_), hm, F.kp, F.bindsN (fun _ _ _ _ _ _ us hl => match us, hl with | [_, _], _ => rfl)⟩
    have sc := sc__law_wrong
    exact (sb_cons (ss_set sc.nd rfl (by first | exact Or.inl rfl | exact Or.inr rfl) rfl (se_call (FnIn.at (ok__law_draw h) hr (by omega) rfl rfl rfl rfl rfl) (by rfl) tk (sae_cons (se_var (pv 0)) (sae_cons (se_if (st_truth (sp_var (pv 1)) rfl) se_int se_int) sae_nil rfl) rfl) rfl (by decide)) rfl) (sb_cons (ss_if (st_cmp (cEq_ok hr.units) (sp_var (pv 2)) (SE.pk se_int) rfl) (sb_cons (ss_ret (se_fz (sf_lst (sae_cons (se_call (FnIn.at (ok__law_one h) hr (by omega) rfl rfl rfl rfl rfl) (by rfl) tk (sae_cons (se_var (pv 0)) (sae_cons (se_fz (sf_lst (sae_cons se_int (sae_cons se_non (sae_cons se_bl (sae_cons (se_str (l := [111, 100, 100]) (by decide +kernel)) (sae_cons (se_str (l := []) (by decide +kernel)) (sae_cons (se_fz (sf_lst sae_nil)) (sae_cons (se_tup sae_nil) (sae_cons (se_fz (sf_lst (sae_cons (se_str (l := [111, 100, 100]) (by decide +kernel)) sae_nil rfl))) (sae_cons (se_fz (sf_lst (sae_cons (se_tup (sae_cons (se_str (l := [111, 100, 100]) (by decide +kernel)) sae_nil rfl)) sae_nil rfl))) sae_nil rfl) rfl) rfl) rfl) rfl) rfl) rfl) rfl) rfl))) sae_nil rfl) rfl) rfl (by decide)) (sae_cons (se_str (l := [102, 111, 114, 109]) (by decide +kernel)) sae_nil rfl) rfl)))) sb_nil) sb_nil) (sb_cons (ss_if (st_cmp cLt_ok (sp_var (pv 2)) (SE.pk se_int) rfl) (sb_cons (ss_set sc.nd rfl (by first | exact Or.inl rfl | exact Or.inr rfl) rfl (se_fz (sf_lst (sae_cons (se_tup (sae_cons (se_str (l := [111, 100, 100]) (by decide +kernel)) (sae_cons se_int sae_nil rfl) rfl)) (sae_cons (se_tup (sae_cons (se_str (l := [110, 117, 109, 98, 101, 114]) (by decide +kernel)) sae_nil rfl)) (sae_cons (se_tup (sae_cons (se_str (l := [119, 111, 114, 100]) (by decide +kernel)) (sae_cons (se_str (l := [97]) (by decide +kernel)) (sae_cons (se_str (l := [98]) (by decide +kernel)) sae_nil rfl) rfl) rfl)) (sae_cons (se_tup (sae_cons (se_str (l := [110, 117, 109, 98, 101, 114, 115]) (by decide +kernel)) (sae_cons se_int sae_nil rfl) rfl)) (sae_cons (se_tup (sae_cons se_non (sae_cons se_int sae_nil rfl) rfl)) (sae_cons (se_tup (sae_cons (se_tup (sae_cons (se_str (l := [111, 100, 100]) (by decide +kernel)) sae_nil rfl)) (sae_cons se_int sae_nil rfl) rfl)) sae_nil rfl) rfl) rfl) rfl) rfl) rfl))) rfl) (sb_cons (ss_set sc.nd rfl (by first | exact Or.inl rfl | exact Or.inr rfl) rfl (se_bin oAdd_ok (sp_var (pv 3)) (SE.pk (se_fz (sf_lst (sae_cons (se_tup (sae_cons (se_str (l := [116, 117, 112, 108, 101]) (by decide +kernel)) (sae_cons (se_fz (sf_lst (sae_cons (se_tup (sae_cons (se_str (l := [111, 100, 100]) (by decide +kernel)) sae_nil rfl)) sae_nil rfl))) sae_nil rfl) rfl)) (sae_cons (se_tup (sae_cons (se_str (l := [116, 117, 112, 108, 101]) (by decide +kernel)) (sae_cons se_non sae_nil rfl) rfl)) (sae_cons (se_tup (sae_cons (se_str (l := [116, 117, 112, 108, 101]) (by decide +kernel)) sae_nil rfl)) (sae_cons (se_tup (sae_cons (se_str (l := [114, 111, 119]) (by decide +kernel)) (sae_cons (se_str (l := [97]) (by decide +kernel)) sae_nil rfl) rfl)) (sae_cons (se_tup (sae_cons (se_str (l := [114, 111, 119]) (by decide +kernel)) (sae_cons (se_tup sae_nil) (sae_cons (se_tup sae_nil) sae_nil rfl) rfl) rfl)) sae_nil rfl) rfl) rfl) rfl) rfl))))) rfl) (sb_cons (ss_ret (se_fz (sf_lst (sae_cons (se_call (FnIn.at (ok__law_one h) hr (by omega) rfl rfl rfl rfl rfl) (by rfl) tk (sae_cons (se_var (pv 0)) (sae_cons (se_var (pv 3)) sae_nil rfl) rfl) rfl (by decide)) (sae_cons (se_str (l := [102, 111, 114, 109]) (by decide +kernel)) sae_nil rfl) rfl)))) sb_nil))) sb_nil) (sb_cons (ss_if (st_cmp (cEq_ok hr.units) (sp_var (pv 2)) (SE.pk se_int) rfl) (sb_cons (ss_ret (se_fz (sf_lst (sae_cons (se_tup (sae_cons (se_str (l := [110, 117, 109, 98, 101, 114]) (by decide +kernel)) (sae_cons (se_call (FnIn.at (ok__law_one h) hr (by omega) rfl rfl rfl rfl rfl) (by rfl) tk (sae_cons (se_var (pv 0)) (sae_cons (se_fz (sf_lst (sae_cons se_bl (sae_cons se_bl (sae_cons se_non (sae_cons (se_str (l := [55]) (by decide +kernel)) (sae_cons (se_tup (sae_cons se_int sae_nil rfl)) sae_nil rfl) rfl) rfl) rfl) rfl))) sae_nil rfl) rfl) rfl (by decide)) sae_nil rfl) rfl)) (sae_cons (se_str (l := [110, 117, 109, 98, 101, 114]) (by decide +kernel)) sae_nil rfl) rfl)))) sb_nil) sb_nil) (sb_cons (ss_if (st_cmp (cEq_ok hr.units) (sp_var (pv 2)) (SE.pk se_int) rfl) (sb_cons (ss_ret (se_fz (sf_lst (sae_cons (se_tup (sae_cons (se_str (l := [119, 111, 114, 100]) (by decide +kernel)) (sae_cons (se_call (FnIn.at (ok__law_one h) hr (by omega) rfl rfl rfl rfl rfl) (by rfl) tk (sae_cons (se_var (pv 0)) (sae_cons (se_fz (sf_lst (sae_cons (se_str (l := []) (by decide +kernel)) (sae_cons (se_str (l := [110, 105, 110, 101, 115, 105, 103, 110, 115]) (by decide +kernel)) (sae_cons (se_str (l := [65, 98]) (by decide +kernel)) (sae_cons (se_str (l := [97, 32, 98]) (by decide +kernel)) (sae_cons (se_str (l := [97, 95, 98]) (by decide +kernel)) (sae_cons se_int (sae_cons se_non sae_nil rfl) rfl) rfl) rfl) rfl) rfl) rfl))) sae_nil rfl) rfl) rfl (by decide)) sae_nil rfl) rfl)) (sae_cons (se_str (l := [119, 111, 114, 100]) (by decide +kernel)) sae_nil rfl) rfl)))) sb_nil) sb_nil) (sb_cons (ss_ret (se_fz (sf_lst (sae_cons (se_tup (sae_cons (se_str (l := [114, 111, 119]) (by decide +kernel)) (sae_cons (se_call (FnIn.at (ok__law_one h) hr (by omega) rfl rfl rfl rfl rfl) (by rfl) tk (sae_cons (se_var (pv 0)) (sae_cons (se_fz (sf_lst (sae_cons (se_tup sae_nil) (sae_cons (se_tup (sae_cons (se_tup (sae_cons (se_str (l := [111, 100, 100]) (by decide +kernel)) sae_nil rfl)) sae_nil rfl)) (sae_cons (se_tup (sae_cons se_int sae_nil rfl)) (sae_cons (se_tup (sae_cons (se_tup (sae_cons (se_str (l := [114, 111, 119]) (by decide +kernel)) (sae_cons (se_tup sae_nil) sae_nil rfl) rfl)) sae_nil rfl)) sae_nil rfl) rfl) rfl) rfl))) sae_nil rfl) rfl) rfl (by decide)) sae_nil rfl) rfl)) (sae_cons (se_str (l := [105, 110, 115, 105, 100, 101]) (by decide +kernel)) sae_nil rfl) rfl)))) sb_nil))))))
theorem sc__law_put : FnScope ["_law_look_here", "_law_path", "_law_thing", "_law_items", "_law_inner"] ["_law_look_here", "_law_path", "_law_thing"] (defScope (top 30)) := ⟨rfl, rfl, rfl, by decide +kernel, rfl, by decide +kernel, by decide +kernel⟩
theorem ok__law_put (h : Fc w K mg) : ∀ n, FnIn P w K mg base "_law_put" (1 + n) (c__law_put n)
  | 0 => by
    obtain ⟨f, fd, F, hm⟩ := h.d__law_put
    refine ⟨f, fd, _, rf_fn (n := 5) (np := 3) (j := 0) (m := sNo) F sc__law_put rfl rfl (fun cdv A outer s H E hr tk pss => ?_), hm, F.kp, F.bindsN (fun _ _ _ _ _ _ us hl => match us, hl with | [_, _, _], _ => rfl)⟩
    have sc := sc__law_put
    exact sb_no
  | n + 1 => by
    have self := ok__law_put h n
    obtain ⟨f, fd, F, hm⟩ := h.d__law_put
    refine ⟨f, fd, _, rf_fn (n := 5) (np := 3) (j := 1 + n) (m := m__law_put (c__law_put n)) F sc__law_put rfl rfl (fun cdv A outer s H E hr tk pss => ?_), hm, F.kp, F.bindsN (fun _ _ _ _ _ _ us hl => match us, hl with | [_, _, _], _ => rfl)⟩
    have sc := sc__law_put
    exact (sb_cons (ss_if (st_cmp (cEq_ok hr.units) (sp_var (pv 1)) (SE.pk (se_tup sae_nil)) rfl) (sb_cons (ss_ret (se_var (pv 2))) sb_nil) sb_nil) (sb_cons (ss_set sc.nd rfl (by first | exact Or.inl rfl | exact Or.inr rfl) rfl (se_ix (sp_var (pv 0)) (SE.pk se_int) rfl) rfl) (sb_cons (ss_set sc.nd rfl (by first | exact Or.inl rfl | exact Or.inr rfl) rfl (se_call (FnIn.at self hr (by omega) rfl rfl rfl rfl rfl) (by rfl) tk (sae_cons (se_ix (sp_var (pv 3)) (SE.pk (se_ix (sp_var (pv 1)) (SE.pk se_int) rfl)) rfl) (sae_cons (se_sl (sp_var (pv 1)) (so_some se_int) so_none) (sae_cons (se_var (pv 2)) sae_nil rfl) rfl) rfl) rfl (by decide)) rfl) (sb_cons (ss_ret (se_tup (sae_cons (se_ix (sp_var (pv 0)) (SE.pk se_int) rfl) (sae_cons (se_bin oAdd_ok (SE.pk (se_bin oAdd_ok (SE.pk (se_sl (sp_var (pv 3)) so_none (so_some (se_ix (sp_var (pv 1)) (SE.pk se_int) rfl)))) (SE.pk (se_tup (sae_cons (se_var (pv 4)) sae_nil rfl))))) (SE.pk (se_sl (sp_var (pv 3)) (so_some (se_bin oAdd_ok (SE.pk (se_ix (sp_var (pv 1)) (SE.pk se_int) rfl)) (SE.pk se_int))) so_none))) sae_nil rfl) rfl))) sb_nil))))
theorem sc__law_same : FnScope ["_law_one_here", "_law_other", "_law_a", "_law_b"] ["_law_one_here", "_law_other"] (defScope (top 20)) := ⟨rfl, rfl, rfl, by decide +kernel, rfl, by decide +kernel, by decide +kernel⟩
theorem ok__law_same (h : Fc w K mg) : ∀ n, FnIn P w K mg base "_law_same" (1 + n) (c__law_same n)
  | 0 => by
    obtain ⟨f, fd, F, hm⟩ := h.d__law_same
    refine ⟨f, fd, _, rf_fn (n := 4) (np := 2) (j := 0) (m := sNo) F sc__law_same rfl rfl (fun cdv A outer s H E hr tk pss => ?_), hm, F.kp, F.bindsN (fun _ _ _ _ _ _ us hl => match us, hl with | [_, _], _ => rfl)⟩
    have sc := sc__law_same
    exact sb_no
  | n + 1 => by
    have self := ok__law_same h n
    obtain ⟨f, fd, F, hm⟩ := h.d__law_same
    refine ⟨f, fd, _, rf_fn (n := 4) (np := 2) (j := 1 + n) (m := m__law_same (c__law_same n)) F sc__law_same rfl rfl (fun cdv A outer s H E hr tk pss => ?_), hm, F.kp, F.bindsN (fun _ _ _ _ _ _ us hl => match us, hl with | [_, _], _ => rfl)⟩
    have sc := sc__law_same
    exact (sb_cons (ss_if (PW.pt (sw_or (st_truth (SE.pk (se_callB bIsI_ok (by rfl) h.b_isinstance (by rfl) (sa_cons (sp_var (pv 0)) (sa_cons (SE.pk (se_tup (sae_cons (se_ty rfl h.b_tuple rfl (by decide) (by decide)) (sae_cons (se_ty rfl h.b_list rfl (by decide) (by decide)) sae_nil rfl) rfl))) sa_nil rfl) rfl) rfl (by decide) (by decide))) rfl) (sw_or1 (st_truth (SE.pk (se_callB bIsI_ok (by rfl) h.b_isinstance (by rfl) (sa_cons (sp_var (pv 1)) (sa_cons (SE.pk (se_tup (sae_cons (se_ty rfl h.b_tuple rfl (by decide) (by decide)) (sae_cons (se_ty rfl h.b_list rfl (by decide) (by decide)) sae_nil rfl) rfl))) sa_nil rfl) rfl) rfl (by decide) (by decide))) rfl)))) (sb_cons (ss_if (PW.pt (sw_or (st_cmp (cNe_ok hr.units) (SE.pk (se_callB bIsI_ok (by rfl) h.b_isinstance (by rfl) (sa_cons (sp_var (pv 0)) (sa_cons (SE.pk (se_ty rfl h.b_tuple rfl (by decide) (by decide))) sa_nil rfl) rfl) rfl (by decide) (by decide))) (SE.pk (se_callB bIsI_ok (by rfl) h.b_isinstance (by rfl) (sa_cons (sp_var (pv 1)) (sa_cons (SE.pk (se_ty rfl h.b_tuple rfl (by decide) (by decide))) sa_nil rfl) rfl) rfl (by decide) (by decide))) rfl) (sw_or1 (st_cmp (cNe_ok hr.units) (SE.pk (se_callB bIsI_ok (by rfl) h.b_isinstance (by rfl) (sa_cons (sp_var (pv 0)) (sa_cons (SE.pk (se_ty rfl h.b_list rfl (by decide) (by decide))) sa_nil rfl) rfl) rfl (by decide) (by decide))) (SE.pk (se_callB bIsI_ok (by rfl) h.b_isinstance (by rfl) (sa_cons (sp_var (pv 1)) (sa_cons (SE.pk (se_ty rfl h.b_list rfl (by decide) (by decide))) sa_nil rfl) rfl) rfl (by decide) (by decide))) rfl)))) (sb_cons (ss_ret se_bl) sb_nil) sb_nil) (sb_cons (ss_ret (se_and (se_cmp (cEq_ok hr.units) (SE.pk (se_callB bLen_ok (by rfl) h.b_len (by rfl) (sa_cons (sp_var (pv 0)) sa_nil rfl) rfl (by decide) (by decide))) (SE.pk (se_callB bLen_ok (by rfl) h.b_len (by rfl) (sa_cons (sp_var (pv 1)) sa_nil rfl) rfl (by decide) (by decide))) rfl) (se_one (se_callB (bAll_ok rfl) (by rfl) h.b_all (by rfl) (sa_cons (SE.pk (se_fz (sf_lc rfl sc.nd (si_zip md_e (by rfl) h.b_zip (SA.q (sa_cons (sp_var (pv 0)) (sa_cons (sp_var (pv 1)) sa_nil rfl) rfl)) rfl rfl) (blkOk_by (own := [("_law_a", 2), ("_law_b", 3)]) (by rfl)) (fun _ _ _ _ _ => (sg_tup rfl (sgs_cons (sg_name (pg_name sc.nd rfl (by first | exact Or.inl rfl | exact Or.inr rfl))) (sgs_cons (sg_name (pg_name sc.nd rfl (by first | exact Or.inl rfl | exact Or.inr rfl))) sgs_nil rfl) rfl) rfl rfl)) (fun _ _ _ _ _ => sts_nil) (fun _ _ _ _ _ => (se_call (FnIn.at self hr (by omega) rfl rfl rfl rfl rfl) (by rfl) takes_no (sae_cons (se_var (pv 2)) (sae_cons (se_var (pv 3)) sae_nil rfl) rfl) rfl (by decide))) (by decide) rfl))) sa_nil rfl) rfl (by decide) (by decide))))) sb_nil)) sb_nil) (sb_cons (ss_if (PW.pt (sw_or (st_truth (SE.pk (se_callB bIsI_ok (by rfl) h.b_isinstance (by rfl) (sa_cons (sp_var (pv 0)) (sa_cons (SE.pk (se_ty rfl h.b_bool rfl (by decide) (by decide))) sa_nil rfl) rfl) rfl (by decide) (by decide))) rfl) (sw_or1 (st_truth (SE.pk (se_callB bIsI_ok (by rfl) h.b_isinstance (by rfl) (sa_cons (sp_var (pv 1)) (sa_cons (SE.pk (se_ty rfl h.b_bool rfl (by decide) (by decide))) sa_nil rfl) rfl) rfl (by decide) (by decide))) rfl)))) (sb_cons (ss_ret (se_and (se_callB bIsI_ok (by rfl) h.b_isinstance (by rfl) (sa_cons (sp_var (pv 0)) (sa_cons (SE.pk (se_ty rfl h.b_bool rfl (by decide) (by decide))) sa_nil rfl) rfl) rfl (by decide) (by decide)) (se_and (se_callB bIsI_ok (by rfl) h.b_isinstance (by rfl) (sa_cons (sp_var (pv 1)) (sa_cons (SE.pk (se_ty rfl h.b_bool rfl (by decide) (by decide))) sa_nil rfl) rfl) rfl (by decide) (by decide)) (se_one (se_cmp (cEq_ok hr.units) (sp_var (pv 0)) (sp_var (pv 1)) rfl))))) sb_nil) sb_nil) (sb_cons (ss_if (PW.pt (sw_or (st_truth (SE.pk (se_callB bIsI_ok (by rfl) h.b_isinstance (by rfl) (sa_cons (sp_var (pv 0)) (sa_cons (SE.pk (se_ty rfl h.b_int rfl (by decide) (by decide))) sa_nil rfl) rfl) rfl (by decide) (by decide))) rfl) (sw_or1 (st_truth (SE.pk (se_callB bIsI_ok (by rfl) h.b_isinstance (by rfl) (sa_cons (sp_var (pv 1)) (sa_cons (SE.pk (se_ty rfl h.b_int rfl (by decide) (by decide))) sa_nil rfl) rfl) rfl (by decide) (by decide))) rfl)))) (sb_cons (ss_ret (se_and (se_callB bIsI_ok (by rfl) h.b_isinstance (by rfl) (sa_cons (sp_var (pv 0)) (sa_cons (SE.pk (se_ty rfl h.b_int rfl (by decide) (by decide))) sa_nil rfl) rfl) rfl (by decide) (by decide)) (se_and (se_callB bIsI_ok (by rfl) h.b_isinstance (by rfl) (sa_cons (sp_var (pv 1)) (sa_cons (SE.pk (se_ty rfl h.b_int rfl (by decide) (by decide))) sa_nil rfl) rfl) rfl (by decide) (by decide)) (se_one (se_cmp (cEq_ok hr.units) (sp_var (pv 0)) (sp_var (pv 1)) rfl))))) sb_nil) sb_nil) (sb_cons (ss_if (PW.pt (sw_or (st_truth (SE.pk (se_callB bIsI_ok (by rfl) h.b_isinstance (by rfl) (sa_cons (sp_var (pv 0)) (sa_cons (SE.pk (se_ty rfl h.b_str rfl (by decide) (by decide))) sa_nil rfl) rfl) rfl (by decide) (by decide))) rfl) (sw_or1 (st_truth (SE.pk (se_callB bIsI_ok (by rfl) h.b_isinstance (by rfl) (sa_cons (sp_var (pv 1)) (sa_cons (SE.pk (se_ty rfl h.b_str rfl (by decide) (by decide))) sa_nil rfl) rfl) rfl (by decide) (by decide))) rfl)))) (sb_cons (ss_ret (se_and (se_callB bIsI_ok (by rfl) h.b_isinstance (by rfl) (sa_cons (sp_var (pv 0)) (sa_cons (SE.pk (se_ty rfl h.b_str rfl (by decide) (by decide))) sa_nil rfl) rfl) rfl (by decide) (by decide)) (se_and (se_callB bIsI_ok (by rfl) h.b_isinstance (by rfl) (sa_cons (sp_var (pv 1)) (sa_cons (SE.pk (se_ty rfl h.b_str rfl (by decide) (by decide))) sa_nil rfl) rfl) rfl (by decide) (by decide)) (se_one (se_cmp (cEq_ok hr.units) (sp_var (pv 0)) (sp_var (pv 1)) rfl))))) sb_nil) sb_nil) (sb_cons (ss_ret (se_and (se_cmp cIs_ok (sp_var (pv 0)) (SE.pk se_non) rfl) (se_one (se_cmp cIs_ok (sp_var (pv 1)) (SE.pk se_non) rfl)))) sb_nil)))))
theorem sc_law : FnScope ["_law_script", "_law_deck_here", "_law_turn", "_law_look_here", "_law_more", "_law_k", "_law_paths_here", "_law_wrongs", "_law_path", "_law_value", "_law_first"] ["_law_script"] (defScope (top 32)) := ⟨rfl, rfl, rfl, by decide +kernel, rfl, by decide +kernel, by decide +kernel⟩
theorem okf_law (h : Fc w K mg) {f : Addr} {fd : FuncData} (F : FunD K "law" "law" (defArgs (top 32)) (defBody (top 32)) (defScope (top 32)) [] [] f fd) : FnOk P w K mg base (L2.CX P w) 84 f fd ["_law_script"] (spC (k0 K mg) c_law) := by
  refine rf_fn (n := 11) (np := 1) (j := 83) (m := m_law) F sc_law rfl rfl (fun cdv A outer s H E hr tk pss => ?_)
  have sc := sc_law
  exact (sb_cons (ss_set sc.nd rfl (by first | exact Or.inl rfl | exact Or.inr rfl) rfl (se_call (FnIn.at (ok__law_deck h) hr (by omega) rfl rfl rfl rfl rfl) (by rfl) tk (sae_cons (se_var (pv 0)) sae_nil rfl) rfl (by decide)) rfl) (sb_cons (ss_for pss rfl (si_rng1 md_p (by rfl) h.b_range (SAE.q (sae_cons se_int sae_nil rfl)) rfl) (sg_name (pg_name sc.nd rfl (by first | exact Or.inl rfl | exact Or.inr rfl))) (sb_cons (ss_set sc.nd rfl (by first | exact Or.inl rfl | exact Or.inr rfl) rfl (se_call (FnIn.at (ok__law_any_look h) hr (by omega) rfl rfl rfl rfl rfl) (by rfl) tk (sae_cons (se_var (pv 1)) (sae_cons se_int sae_nil rfl) rfl) rfl (by decide)) rfl) (sb_cons (ss_if (st_cmp cIsNot_ok (SE.pk (se_call (FnIn.at (ok_look_error h) hr (by omega) rfl rfl rfl rfl rfl) (by rfl) tk (sae_cons (se_var (pv 3)) sae_nil rfl) rfl (by decide))) (SE.pk se_non) rfl) (sb_cons (ss_ret se_bl) sb_nil) sb_nil) (sb_cons (ss_if (PW.pt (sw_and (st_cmp cIn_ok (SE.pk (se_ix (sp_var (pv 3)) (SE.pk se_int) rfl)) (SE.pk (se_tup (sae_cons (se_str (l := [116, 117, 112, 108, 101]) (by decide +kernel)) (sae_cons (se_str (l := [114, 111, 119]) (by decide +kernel)) sae_nil rfl) rfl))) rfl) (sw_and1 (st_cmp (cEq_ok hr.units) (SE.pk (se_call (FnIn.at (ok__law_draw h) hr (by omega) rfl rfl rfl rfl rfl) (by rfl) tk (sae_cons (se_var (pv 1)) (sae_cons se_int sae_nil rfl) rfl) rfl (by decide))) (SE.pk se_int) rfl)))) (sb_cons (ss_set sc.nd rfl (by first | exact Or.inl rfl | exact Or.inr rfl) rfl (se_callT bTuple_ok (by rfl) h.b_tuple (by rfl) (sa_cons (SE.pk (se_fz (sf_lc rfl sc.nd (si_rng1 md_e (by rfl) h.b_range (SA.q (sa_cons (SE.pk (se_bin oAdd_ok (SE.pk se_int) (SE.pk (se_call (FnIn.at (ok__law_draw h) hr (by omega) rfl rfl rfl rfl rfl) (by rfl) tk (sae_cons (se_var (pv 1)) (sae_cons se_int sae_nil rfl) rfl) rfl (by decide))))) sa_nil rfl)) rfl) (blkOk_by (own := [("_law_k", 5)]) (by rfl)) (fun _ _ _ _ _ => (sg_name (pg_name sc.nd rfl (by first | exact Or.inl rfl | exact Or.inr rfl)))) (fun _ _ _ _ _ => sts_nil) (fun _ _ _ _ _ => (se_call (FnIn.at (ok__law_atom h) hr (by omega) rfl rfl rfl rfl rfl) (by rfl) takes_no (sae_cons (se_var (pv 1)) sae_nil rfl) rfl (by decide))) (by decide) rfl))) sa_nil rfl) rfl (by decide) (by decide)) rfl) (sb_cons (ss_set sc.nd rfl (by first | exact Or.inl rfl | exact Or.inr rfl) rfl (se_tup (sae_cons (se_ix (sp_var (pv 3)) (SE.pk se_int) rfl) (sae_cons (se_if (st_cmp (cEq_ok hr.units) (SE.pk (se_call (FnIn.at (ok__law_draw h) hr (by omega) rfl rfl rfl rfl rfl) (by rfl) tk (sae_cons (se_var (pv 1)) (sae_cons se_int sae_nil rfl) rfl) rfl (by decide))) (SE.pk se_int) rfl) (se_bin oAdd_ok (SE.pk (se_ix (sp_var (pv 3)) (SE.pk se_int) rfl)) (sp_var (pv 4))) (se_bin oAdd_ok (sp_var (pv 4)) (SE.pk (se_ix (sp_var (pv 3)) (SE.pk se_int) rfl)))) sae_nil rfl) rfl)) rfl) sb_nil)) sb_nil) (sb_cons (ss_set sc.nd rfl (by first | exact Or.inl rfl | exact Or.inr rfl) rfl (se_call (FnIn.at ((ok__law_paths h 40)) hr (by omega) rfl rfl rfl rfl rfl) (by rfl) tk (sae_cons (se_var (pv 3)) (sae_cons (se_tup sae_nil) sae_nil rfl) rfl) rfl (by decide)) rfl) (sb_cons (ss_dct sc.nd rfl (by first | exact Or.inl rfl | exact Or.inr rfl) rfl) (sb_cons (ss_for pss rfl (si_rng1 md_p (by rfl) h.b_range (SAE.q (sae_cons (se_bin oAdd_ok (SE.pk se_int) (SE.pk (se_call (FnIn.at (ok__law_draw h) hr (by omega) rfl rfl rfl rfl rfl) (by rfl) tk (sae_cons (se_var (pv 1)) (sae_cons se_int sae_nil rfl) rfl) rfl (by decide)))) sae_nil rfl)) rfl) (sg_name (pg_name sc.nd rfl (by first | exact Or.inl rfl | exact Or.inr rfl))) (sb_cons (ss_set sc.nd rfl (by first | exact Or.inl rfl | exact Or.inr rfl) rfl (se_call (FnIn.at (ok__law_one h) hr (by omega) rfl rfl rfl rfl rfl) (by rfl) tk (sae_cons (se_var (pv 1)) (sae_cons (se_var (pv 6)) sae_nil rfl) rfl) rfl (by decide)) rfl) (sb_cons (ss_putT (un1 hr.units) (pv 7) (se_var (pv 8)) (se_call (FnIn.at (ok__law_wrong h) hr (by omega) rfl rfl rfl rfl rfl) (by rfl) tk (sae_cons (se_var (pv 1)) (sae_cons (se_cmp (cEq_ok hr.units) (sp_var (pv 8)) (SE.pk (se_tup sae_nil)) rfl) sae_nil rfl) rfl) rfl (by decide)) rfl) sb_nil)) rfl) (sb_cons (ss_set sc.nd rfl (by first | exact Or.inl rfl | exact Or.inr rfl) rfl (se_var (pv 3)) rfl) (sb_cons (ss_for pss rfl (si_val md_p (se_fz (sf_rev (SE.pk (se_fz (sf_callB (bSortT_ok hr.units) rfl h.b_sorted rfl (sa_cons (SE.pk (se_fz (sf_keysT rfl rfl h.b_list (pv 7)))) sa_nil rfl) rfl (by decide) (by decide))))))) (sg_name (pg_name sc.nd rfl (by first | exact Or.inl rfl | exact Or.inr rfl))) (sb_cons (ss_set sc.nd rfl (by first | exact Or.inl rfl | exact Or.inr rfl) rfl (se_call (FnIn.at ((ok__law_put h 40)) hr (by omega) rfl rfl rfl rfl rfl) (by rfl) tk (sae_cons (se_var (pv 9)) (sae_cons (se_var (pv 8)) (sae_cons (se_ix (SE.pk (se_getT (un1 hr.units) (pv 7) (se_var (pv 8)) (fun _ _ => rfl))) (SE.pk se_int) rfl) sae_nil rfl) rfl) rfl) rfl (by decide)) rfl) sb_nil) rfl) (sb_cons (ss_set sc.nd rfl (by first | exact Or.inl rfl | exact Or.inr rfl) rfl (se_callB (bMinT_ok (by rfl) hr.units) (by rfl) h.b_min (by rfl) (sa_cons (SE.pk (se_fz (sf_keysT rfl rfl h.b_list (pv 7)))) sa_nil rfl) rfl (by decide) (by decide)) rfl) (sb_cons (ss_if (st_not (st_truth (SE.pk (se_call (FnIn.at ((ok__law_same h 40)) hr (by omega) rfl rfl rfl rfl rfl) (by rfl) tk (sae_cons (se_call (FnIn.at (ok_look_error h) hr (by omega) rfl rfl rfl rfl rfl) (by rfl) tk (sae_cons (se_var (pv 9)) sae_nil rfl) rfl (by decide)) (sae_cons (se_tup (sae_cons (se_var (pv 10)) (sae_cons (se_ix (SE.pk (se_getT (un1 hr.units) (pv 7) (se_var (pv 10)) (fun _ _ => rfl))) (SE.pk se_int) rfl) sae_nil rfl) rfl)) sae_nil rfl) rfl) rfl (by decide))) rfl)) (sb_cons (ss_ret se_bl) sb_nil) sb_nil) sb_nil)))))))))) rfl) (sb_cons (ss_ret se_bl) sb_nil)))
end
end Lw

set_option Elab.async false
set_option linter.all false
set_option maxRecDepth 100000
set_option maxHeartbeats 0
namespace Lw
open PySem PySem.Spec PyProof.Rows L2 TL Rf
/-! the head -/
def dfs : List He.DefD := [⟨("_law_deck", none), "_law_deck", "_law_deck", defArgs (top 17), defBody (top 17), defScope (top 17), [], []⟩, ⟨("_law_draw", none), "_law_draw", "_law_draw", defArgs (top 18), defBody (top 18), defScope (top 18), [], []⟩, ⟨("_law_one", none), "_law_one", "_law_one", defArgs (top 19), defBody (top 19), defScope (top 19), [], []⟩, ⟨("_law_text", none), "_law_text", "_law_text", defArgs (top 22), defBody (top 22), defScope (top 22), [], []⟩, ⟨("_law_signs", none), "_law_signs", "_law_signs", defArgs (top 21), defBody (top 21), defScope (top 21), [], []⟩, ⟨("_law_word", none), "_law_word", "_law_word", defArgs (top 23), defBody (top 23), defScope (top 23), [], []⟩, ⟨("_law_number", none), "_law_number", "_law_number", defArgs (top 24), defBody (top 24), defScope (top 24), [], []⟩, ⟨("_law_atom", none), "_law_atom", "_law_atom", defArgs (top 26), defBody (top 26), defScope (top 26), [], []⟩, ⟨("_law_size", none), "_law_size", "_law_size", defArgs (top 25), defBody (top 25), defScope (top 25), [], []⟩, ⟨("_law_look", none), "_law_look", "_law_look", defArgs (top 27), defBody (top 27), defScope (top 27), [], []⟩, ⟨("_law_any_look", none), "_law_any_look", "_law_any_look", defArgs (top 28), defBody (top 28), defScope (top 28), [], []⟩, ⟨("_law_paths", none), "_law_paths", "_law_paths", defArgs (top 29), defBody (top 29), defScope (top 29), [], []⟩, ⟨("is_number", none), "is_number", "is_number", defArgs (top 10), defBody (top 10), defScope (top 10), [], []⟩, ⟨("has_signs", none), "has_signs", "has_signs", defArgs (top 6), defBody (top 6), defScope (top 6), [], []⟩, ⟨("is_word", none), "is_word", "is_word", defArgs (top 7), defBody (top 7), defScope (top 7), [], []⟩, ⟨("own_error", none), "own_error", "own_error", defArgs (top 11), defBody (top 11), defScope (top 11), [], []⟩, ⟨("items_of", none), "items_of", "items_of", defArgs (top 12), defBody (top 12), defScope (top 12), [], []⟩, ⟨("first_error", none), "first_error", "first_error", defArgs (top 13), defBody (top 13), defScope (top 13), [], []⟩, ⟨("size_of", none), "size_of", "size_of", defArgs (top 15), defBody (top 15), defScope (top 15), [], []⟩, ⟨("look_error", none), "look_error", "look_error", defArgs (top 14), defBody (top 14), defScope (top 14), [], []⟩, ⟨("_law_wrong", none), "_law_wrong", "_law_wrong", defArgs (top 31), defBody (top 31), defScope (top 31), [], []⟩, ⟨("_law_put", none), "_law_put", "_law_put", defArgs (top 30), defBody (top 30), defScope (top 30), [], []⟩, ⟨("_law_same", none), "_law_same", "_law_same", defArgs (top 20), defBody (top 20), defScope (top 20), [], []⟩, ⟨("law", none), "law", "law", defArgs (top 32), defBody (top 32), defScope (top 32), [], []⟩]
def fas : List He.Fa := [.glo "_law_deck", .glo "_law_draw", .glo "_law_one", .glo "_law_text", .glo "_law_signs", .glo "_law_word", .glo "_law_number", .glo "_law_atom", .glo "_law_size", .glo "_law_look", .glo "_law_any_look", .glo "_law_paths", .glo "is_number", .glo "has_signs", .glo "is_word", .glo "own_error", .glo "items_of", .glo "first_error", .glo "size_of", .glo "look_error", .glo "_law_wrong", .glo "_law_put", .glo "_law_same", .glo "law", .free "abs", .free "all", .free "bool", .free "enumerate", .free "int", .free "isinstance", .free "len", .free "list", .free "max", .free "min", .free "range", .free "sorted", .free "str", .free "sum", .free "tuple", .free "zip"]
def tbs : List He.Tab := [(fun K => He.ga K "ITEMS", ["number", "odd", "word", "tuple", "row"])]
def ckk (K : PySem.W.Frag) : Bool := (ckG K "MAX_DIGITS" (.int 150)) && (ckG K "MAX_ROW" (.int 30)) && (ckG K "MAX_SIZE" (.int 30)) && (ckG K "MAX_WORD" (.int 8)) && (ckG K "SIGNS" (.str [97, 98, 99, 100, 101, 102, 103, 104, 105, 106, 107, 108, 109, 110, 111, 112, 113, 114, 115, 116, 117, 118, 119, 120, 121, 122, 48, 49, 50, 51, 52, 53, 54, 55, 56, 57])) && (ckTab K "ITEMS" tab_ITEMS)
abbrev Rw : PySem.W.OpenRow := PySem.W.OpenLaw.row PySem.Challenge.rw_maybesame_k01_first_errors_of_looks
abbrev hk : PySem.W.Hook := hookC 6 fas dfs tbs ckk
def ob (s : PySem.W.SharedT) : He.AlT × Bool := obC 6 fas dfs tbs ckk (HandSHeadRun.getT s)
theorem ob_eq (s : PySem.W.SharedT) : ob s = hk.obs s.abs := obC_eq (HandSHeadRun.getT_eq s)
def loose : List Str := (["has_signs", "is_word", "is_number", "own_error", "items_of", "first_error", "look_error", "size_of", "_law_deck", "_law_draw", "_law_one", "_law_same", "_law_signs", "_law_text", "_law_word", "_law_number"] : List Str) ++ (["_law_size", "_law_atom", "_law_look", "_law_any_look", "_law_paths", "_law_put", "_law_wrong", "MAX_WORD", "MAX_SIZE", "MAX_ROW", "MAX_DIGITS", "SIGNS", "ITEMS"] : List Str)
theorem run (w : World) : HandSHeadRun.RunEq Rw (PySem.W.view Rw.prog [32]) hk ob 9000 loose w := PySem.W.byRow2 "special-get-raises" (P := fun w => HandSHeadRun.RunEq Rw (PySem.W.view Rw.prog [32]) hk ob 9000 loose w) (fun w => by intro os; kernel_rfl) (fun w => by intro os; kernel_rfl) w
theorem facts {w : World} {K : PySem.W.Frag} {h : Heap} {mg : Str → Option Value} (X : K.In h) (G : h.Ns mainGlobals mg) (c : He.SaysT fas dfs tbs w K) (ck : ckk K = true) : Fc w K mg := by
  have cd := c.d
  unfold ckk at ck
  simp only [Bool.and_eq_true] at ck
  obtain ⟨⟨⟨⟨⟨q0, q1⟩, q2⟩, q3⟩, q4⟩, q5⟩ := ck
  refine ⟨?_, ?_, ?_, ?_, ?_, ?_, ?_, ?_, ?_, ?_, ?_, ?_, ?_, ?_, ?_, ?_, ?_, ?_, ?_, ?_, ?_, ?_, ?_, ?_, ?_, ?_, ?_, ?_, ?_, ?_, ?_, ?_, ?_, ?_, ?_, ?_, ?_, ?_, ?_, ?_, ?_, ?_, ?_, ?_, ?_, ?_⟩
  · exact def_at X G cd (by simp [dfs]) (by simp [fas])
  · exact def_at X G cd (by simp [dfs]) (by simp [fas])
  · exact def_at X G cd (by simp [dfs]) (by simp [fas])
  · exact def_at X G cd (by simp [dfs]) (by simp [fas])
  · exact def_at X G cd (by simp [dfs]) (by simp [fas])
  · exact def_at X G cd (by simp [dfs]) (by simp [fas])
  · exact def_at X G cd (by simp [dfs]) (by simp [fas])
  · exact def_at X G cd (by simp [dfs]) (by simp [fas])
  · exact def_at X G cd (by simp [dfs]) (by simp [fas])
  · exact def_at X G cd (by simp [dfs]) (by simp [fas])
  · exact def_at X G cd (by simp [dfs]) (by simp [fas])
  · exact def_at X G cd (by simp [dfs]) (by simp [fas])
  · exact def_at X G cd (by simp [dfs]) (by simp [fas])
  · exact def_at X G cd (by simp [dfs]) (by simp [fas])
  · exact def_at X G cd (by simp [dfs]) (by simp [fas])
  · exact def_at X G cd (by simp [dfs]) (by simp [fas])
  · exact def_at X G cd (by simp [dfs]) (by simp [fas])
  · exact def_at X G cd (by simp [dfs]) (by simp [fas])
  · exact def_at X G cd (by simp [dfs]) (by simp [fas])
  · exact def_at X G cd (by simp [dfs]) (by simp [fas])
  · exact def_at X G cd (by simp [dfs]) (by simp [fas])
  · exact def_at X G cd (by simp [dfs]) (by simp [fas])
  · exact def_at X G cd (by simp [dfs]) (by simp [fas])
  · exact def_at X G cd (by simp [dfs]) (by simp [fas])
  · exact free_at X G cd (by simp [fas])
  · exact free_at X G cd (by simp [fas])
  · exact free_at X G cd (by simp [fas])
  · exact free_at X G cd (by simp [fas])
  · exact free_at X G cd (by simp [fas])
  · exact free_at X G cd (by simp [fas])
  · exact free_at X G cd (by simp [fas])
  · exact free_at X G cd (by simp [fas])
  · exact free_at X G cd (by simp [fas])
  · exact free_at X G cd (by simp [fas])
  · exact free_at X G cd (by simp [fas])
  · exact free_at X G cd (by simp [fas])
  · exact free_at X G cd (by simp [fas])
  · exact free_at X G cd (by simp [fas])
  · exact free_at X G cd (by simp [fas])
  · exact free_at X G cd (by simp [fas])
  · exact ckG_ok (k := (k0 K mg)) X G q0
  · exact ckG_ok (k := (k0 K mg)) X G q1
  · exact ckG_ok (k := (k0 K mg)) X G q2
  · exact ckG_ok (k := (k0 K mg)) X G q3
  · exact ckG_ok (k := (k0 K mg)) X G q4
  · exact (c.tab 0 (t := (fun K => He.ga K "ITEMS", ["number", "odd", "word", "tuple", "row"])) rfl).elim fun es z => z.elim fun n kd => ckTab_ok (k := (k0 K mg)) X G q5 kd
end Lw

set_option Elab.async false
set_option linter.all false
set_option maxRecDepth 100000
set_option maxHeartbeats 0
namespace Rf
open PySem PySem.Spec PyProof.Rows L2 TL Rf
local macro_rules | `(tactic| walk_at "rf") => `(tactic| first
  | (with_reducible refine Wp.imp ?_)
  | (with_reducible refine Ws.imp ?_)
  | ((with_reducible apply w_draw); (· assumption); (· first | decide | omega); (· first | decide | assumption | exact Nat.lt_of_lt_of_le (lgi (k := 64) (by omega) (by decide)) (by decide)); intro r S' h0 h1 hd)
  | ((with_reducible apply w_one); (· assumption); (· intro h; cases h); (· exact Nat.le_of_ble_eq_true rfl); intro x S' hx hd)
  | ((with_reducible apply w_oneS); (· assumption); (· decide); (· decide); intro x S' hx hd)
  | ((with_reducible apply w_oneT); (· assumption); (· intro h; cases h); (· exact Nat.le_of_ble_eq_true rfl); intro x S' hx hd)
  | ((with_reducible apply f_cons); (· exact rfl))
  | ((with_reducible apply f_nil); (· exact rfl))
  | ((with_reducible apply l_cons); (· exact rfl))
  | ((with_reducible apply l_nil); (· exact rfl))
  | ((with_reducible apply g_len); (· exact rfl); (· first | assumption | omega | (simp only [List.length_append, List.length_cons, List.length_nil]; omega)))
  | ((with_reducible apply g_rng1); (· exact rfl); (· constructor <;> omega))
  | ((with_reducible apply g_rng2); (· exact rfl); (· refine ⟨?_, ?_⟩ <;> constructor <;> omega))
  | (with_reducible refine g_op ?_)
  | ((with_reducible refine g_og ?_ ?_); (· first | assumption | decide | omega | (simp only [List.length_append, List.length_cons, List.length_nil]; omega)))
  | ((with_reducible apply Exists.intro)
     (fail_if_success (with_reducible refine g_og ?_ ?_))
     (repeat (with_reducible apply Exists.intro))
     refine And.intro rfl ?_)
  | (with_reducible refine g_ift ?_)
  | (with_reducible refine g_iff ?_)
  | ((with_reducible refine g_ifd (fun ht => ?_) (fun ht => ?_)) <;> first | (exfalso; omega) | skip)
  | ((with_reducible apply r_isT); (· first | exact rfl | assumption))
  | ((with_reducible apply r_isF); (· first | exact rfl | assumption))
  | ((with_reducible refine r_dec (fun ht => ?_) (fun ht => ?_)) <;> first | (exfalso; omega) | skip)
  | ((with_reducible refine r_ndec (fun ht => ?_) (fun ht => ?_)) <;> first | (exfalso; omega) | skip)
  | ((with_reducible refine And.intro ?_ ?_); exact rfl)
  | ((with_reducible refine And.intro ?_ ?_); exact Nat.le_of_ble_eq_true rfl)
  | (with_reducible exact rfl)
)
section
theorem same_refl : ∀ (n : Nat) (d : D) (S : Sto), pl d = true → dp d < n → c__law_same n [d, d] S = .ok (.bl true) S
  | 0, _, _, _, h => absurd h (Nat.not_lt_zero _)
  | n + 1, .non, S, _, _ => ok_of (by
    apply u__law_same
    repeat' walk_at "rf")
  | n + 1, .bl b, S, _, _ => ok_of (by
    apply u__law_same
    cases b <;> repeat' walk_at "rf")
  | n + 1, .int i, S, _, _ => ok_of (by
    apply u__law_same
    repeat' walk_at "rf"
    exact ⟨congrArg D.bl (decide_eq_true rfl), rfl⟩)
  | n + 1, .str x, S, _, _ => ok_of (by
    apply u__law_same
    repeat' walk_at "rf"
    exact ⟨congrArg D.bl (decide_eq_true rfl), rfl⟩)
  | n + 1, .tup ds, S, hp, hd => ok_of (by
    rw [pl, Bool.and_eq_true, decide_eq_true_iff] at hp
    apply u__law_same
    repeat' walk_at "rf"
    refine wp.eq (a := ds.map fun _ => .bl true) (S := S) ?_ ?_
    · show lcLoop none (pairI ds ds) _ tYs _ _ (pairI ds ds) S [] = _
      rw [pair_self ds]
      refine lc_eq ds (fun d hd' => ⟨_, rfl, rfl, ?_⟩) (Nat.le_trans hp.1 (by decide))
      exact same_refl n d S (plL_mem hp.2 hd') (by have := dpL_mem hd'; rw [dp] at hd; omega)
    · refine r_aNil ⟨_, all_true ds, ?_⟩
      repeat' walk_at "rf")
  | n + 1, .lst ds, S, hp, hd => ok_of (by
    rw [pl, Bool.and_eq_true, decide_eq_true_iff] at hp
    apply u__law_same
    repeat' walk_at "rf"
    refine wp.eq (a := ds.map fun _ => .bl true) (S := S) ?_ ?_
    · show lcLoop none (pairI ds ds) _ tYs _ _ (pairI ds ds) S [] = _
      rw [pair_self ds]
      refine lc_eq ds (fun d hd' => ⟨_, rfl, rfl, ?_⟩) (Nat.le_trans hp.1 (by decide))
      exact same_refl n d S (plL_mem hp.2 hd') (by have := dpL_mem hd'; rw [dp] at hd; omega)
    · refine r_aNil ⟨_, all_true ds, ?_⟩
      repeat' walk_at "rf")
  | _, .obj _, _, h, _ => by cases h
  | _, .gl _, _, h, _ => by cases h
  | _, .ty _, _, h, _ => by cases h
  | _, .scr _, _, h, _ => by cases h
theorem same_ok {n : Nat} {d e : D} {S : Sto} {P : D → Sto → Prop} (h : d = e) (hp : pl e = true) (hd : dp e < n) (k : P (.bl true) S) : wp (c__law_same n [d, e] S) P := by
  subst h
  exact wp.eq (same_refl n d S hp hd) k
variable {T S : Sto} {n : Nat}
/-- a text of drawn signs -/
theorem w_text {m : Int} {M : Nat} {z : List Nat} {P : D → Sto → Prop} (hd : Deck T (n + M) S) (h0 : 0 ≤ m) (hm : m ≤ M) (hM : M ≤ 1000) (hz : z ≠ []) (hz2 : z.length < 1000)
    (k : ∀ (s : List Nat) (S' : Sto), s.length = m.toNat → (∀ c ∈ s, c ∈ z) → Deck T n S' → P (.str s) S') : wp (c__law_text [.obj 1, .int m, .str z] S) P := by
  apply u__law_text
  repeat' walk_at "rf"
  refine lc_rng (fun j r acc S => Deck T (n + r) S ∧ ∃ cs : List Nat, acc = cs.map (fun c => .str [c]) ∧ cs.length + r = m.toNat ∧ ∀ c ∈ cs, c ∈ z) ?_ ?_ _ _ _ _ ?_
  · rintro j r acc S ⟨h1, cs, rfl, h3, h4⟩
    refine ⟨_, rfl, ?_⟩
    repeat' walk_at "rf"
    refine w_oneS h1 hz hz2 fun x S' hx hd' => ?_
    refine ⟨?_, hd', cs ++ [x], ?_, ?_, ?_⟩
    · rw [List.length_map]
      have : 1000 ≤ sizeLine := by decide
      omega
    · rw [List.map_append]; rfl
    · rw [List.length_append, List.length_singleton]; omega
    · intro c hc
      rcases List.mem_append.mp hc with hc | hc
      · exact h4 c hc
      · rw [List.mem_singleton.mp hc]; exact hx
  · rintro j S acc ⟨h1, cs, rfl, h3, h4⟩
    refine ⟨_, join_one (by omega), ?_⟩
    exact k cs S (by omega) h4 h1
  · exact ⟨hd.le (by omega), [], rfl, by simp, by simp⟩
end

end Rf

set_option Elab.async false
set_option linter.all false
set_option maxRecDepth 100000
set_option maxHeartbeats 0
namespace Rf
open PySem PySem.Spec PyProof.Rows L2 TL Rf
local macro_rules | `(tactic| walk_at "rf") => `(tactic| first
  | (with_reducible refine Wp.imp ?_)
  | (with_reducible refine Ws.imp ?_)
  | ((with_reducible apply w_draw); (· assumption); (· first | decide | omega); (· first | decide | assumption | exact Nat.lt_of_lt_of_le (lgi (k := 64) (by omega) (by decide)) (by decide)); intro r S' h0 h1 hd)
  | ((with_reducible apply w_one); (· assumption); (· intro h; cases h); (· exact Nat.le_of_ble_eq_true rfl); intro x S' hx hd)
  | ((with_reducible apply w_oneS); (· assumption); (· decide); (· decide); intro x S' hx hd)
  | ((with_reducible apply w_oneT); (· assumption); (· intro h; cases h); (· exact Nat.le_of_ble_eq_true rfl); intro x S' hx hd)
  | ((with_reducible apply f_cons); (· exact rfl))
  | ((with_reducible apply f_nil); (· exact rfl))
  | ((with_reducible apply l_cons); (· exact rfl))
  | ((with_reducible apply l_nil); (· exact rfl))
  | ((with_reducible apply g_len); (· exact rfl); (· first | assumption | omega | (simp only [List.length_append, List.length_cons, List.length_nil]; omega)))
  | ((with_reducible apply g_rng1); (· exact rfl); (· constructor <;> omega))
  | ((with_reducible apply g_rng2); (· exact rfl); (· refine ⟨?_, ?_⟩ <;> constructor <;> omega))
  | (with_reducible refine g_op ?_)
  | ((with_reducible refine g_og ?_ ?_); (· first | assumption | decide | omega | (simp only [List.length_append, List.length_cons, List.length_nil]; omega)))
  | ((with_reducible apply Exists.intro)
     (fail_if_success (with_reducible refine g_og ?_ ?_))
     (repeat (with_reducible apply Exists.intro))
     refine And.intro rfl ?_)
  | (with_reducible refine g_ift ?_)
  | (with_reducible refine g_iff ?_)
  | ((with_reducible refine g_ifd (fun ht => ?_) (fun ht => ?_)) <;> first | (exfalso; omega) | skip)
  | ((with_reducible apply r_isT); (· first | exact rfl | assumption))
  | ((with_reducible apply r_isF); (· first | exact rfl | assumption))
  | ((with_reducible refine r_dec (fun ht => ?_) (fun ht => ?_)) <;> first | (exfalso; omega) | skip)
  | ((with_reducible refine r_ndec (fun ht => ?_) (fun ht => ?_)) <;> first | (exfalso; omega) | skip)
  | ((with_reducible refine And.intro ?_ ?_); exact rfl)
  | ((with_reducible refine And.intro ?_ ?_); exact Nat.le_of_ble_eq_true rfl)
  | (with_reducible exact rfl)
  | (with_reducible apply u_has_signs)
  | (with_reducible apply u_items_of)
  | (with_reducible apply u__law_same)
  | (with_reducible apply u__law_text))
abbrev sForm : D := .str [102, 111, 114, 109]
abbrev sNumber : D := .str [110, 117, 109, 98, 101, 114]
abbrev sWord : D := .str [119, 111, 114, 100]
abbrev sTuple : D := .str [116, 117, 112, 108, 101]
abbrev sRow : D := .str [114, 111, 119]
abbrev sOdd : D := .str [111, 100, 100]
abbrev sInside : D := .str [105, 110, 115, 105, 100, 101]
abbrev sSize : D := .str [115, 105, 122, 101]
abbrev sLong : D := .str [108, 111, 110, 103]
abbrev plain : List Nat := [97, 98, 99, 100, 101, 102, 103, 104, 105, 106, 107, 108, 109, 110, 111, 112, 113, 114, 115, 116, 117, 118, 119, 120, 121, 122, 48, 49, 50, 51, 52, 53, 54, 55, 56, 57]
def okw (s : List Nat) : Bool := decide (1 ≤ s.length ∧ s.length ≤ 8) && s.all fun c => decide (c ∈ plain)
/-- a look without rows -/
inductive T where
  | odd | num (i : Int) | word (x : List Nat) | tup (xs : List T)
mutual
def T.d : T → D
  | .odd => .tup [sOdd]
  | .num i => .tup [sNumber, .int i]
  | .word x => .tup [sWord, .str x]
  | .tup xs => .tup [sTuple, .tup (T.ds xs)]
def T.ds : List T → List D
  | [] => []
  | t :: ts => t.d :: T.ds ts
end
theorem T.ds_map : ∀ ts : List T, T.ds ts = ts.map T.d
  | [] => rfl
  | t :: ts => by rw [T.ds, T.ds_map ts]; rfl
mutual
def T.sz : T → Int
  | .tup xs => 1 + T.szs xs
  | .odd => 1
  | .num _ => 1
  | .word _ => 1
def T.szs : List T → Int
  | [] => 0
  | t :: ts => t.sz + T.szs ts
end
mutual
def T.lv : T → Nat
  | .tup xs => T.lvs xs + 1
  | .odd => 0
  | .num _ => 0
  | .word _ => 0
def T.lvs : List T → Nat
  | [] => 0
  | t :: ts => max t.lv (T.lvs ts)
end
mutual
/-- right, not too wide -/
def T.ok : T → Bool
  | .odd => true
  | .num i => decide (i.natAbs < 10 ^ 150)
  | .word x => okw x
  | .tup xs => decide (xs.length ≤ 1000) && T.oks xs
def T.oks : List T → Bool
  | [] => true
  | t :: ts => t.ok && T.oks ts
end
theorem T.oks_mem : ∀ {ts : List T} {t : T}, T.oks ts = true → t ∈ ts → t.ok = true
  | [], _, _, h => by cases h
  | u :: ts, t, h, ht => by
    rw [T.oks, Bool.and_eq_true] at h
    rcases List.mem_cons.mp ht with rfl | ht
    · exact h.1
    · exact T.oks_mem h.2 ht
theorem T.lvs_mem : ∀ {ts : List T} {t : T}, t ∈ ts → t.lv ≤ T.lvs ts
  | [], _, h => by cases h
  | u :: ts, t, ht => by
    rw [T.lvs]
    rcases List.mem_cons.mp ht with rfl | ht
    · exact Nat.le_max_left _ _
    · exact Nat.le_trans (T.lvs_mem ht) (Nat.le_max_right _ _)
theorem T.szs_sum : ∀ ts : List T, T.szs ts = (ts.map T.sz).sum
  | [] => rfl
  | t :: ts => by rw [T.szs, T.szs_sum ts]; rfl
theorem T.sz_pos : ∀ t : T, 1 ≤ t.sz
  | .odd => by rw [T.sz]; omega
  | .num _ => by rw [T.sz]; omega
  | .word _ => by rw [T.sz]; omega
  | .tup xs => by rw [T.sz]; have := T.szs_len xs; omega
where T.szs_len : ∀ ts : List T, (ts.length : Int) ≤ T.szs ts
  | [] => by rw [T.szs]; simp
  | t :: ts => by rw [T.szs, List.length_cons]; have := T.sz_pos t; have := T.szs_len ts; omega
section
variable {S : Sto}
theorem w_isnum {i : Int} {P : D → Sto → Prop} (h : i.natAbs < 10 ^ 150) (k : P (.bl true) S) : wp (c_is_number [.int i] S) P := by
  apply u_is_number
  have hb : Builtin.Int.intBits i ≤ 500 := bits_le (by omega) (by omega)
  have hj : (if i < 0 then -i else i).natAbs = i.natAbs := by split <;> omega
  obtain ⟨j, hj2⟩ : ∃ j : Nat, (if i < 0 then -i else i) = (j : Int) := ⟨i.natAbs, by split <;> omega⟩
  have hj3 : j < 10 ^ 150 := by
    rw [hj2] at hj
    omega
  have hlen : (numL j).length ≤ 150 := numL_lenk (by decide) (by omega)
  repeat' walk_at "rf"
  refine ⟨.str (intS (if i < 0 then -i else i)), if_pos (lgi (by omega) (by omega)), ?_⟩
  have e : intS (if i < 0 then -i else i) = numL j := by rw [hj2]; rfl
  have hz : (numL j).length ≤ sizeLine := Nat.le_trans hlen (by decide)
  rw [e]
  refine r_aNil ⟨.int ((numL j).length : Int), ?_, ?_⟩
  · show ((if (numL j).length ≤ sizeLine then some (numL j).length else none).map fun (n : Nat) => D.int (n : Int)) = _
    rw [if_pos hz]; rfl
  repeat' walk_at "rf"
  have : decide (((numL j).length : Nat) ≤ (150 : Int)) = true := decide_eq_true (by omega)
  rw [this]
  exact k
theorem w_isword {s : List Nat} {P : D → Sto → Prop} (hz : s.length ≤ sizeLine) (k : P (.bl (okw s)) S) : wp (c_is_word [.str s] S) P := by
  apply u_is_word
  repeat' walk_at "rf"
  · rename_i h1 h2
    refine wp.of (lc_str (fun c => .bl (decide (c ∈ plain))) (fun c => rfl) hz) ?_
    refine r_aNil ⟨_, all_map _ s, ?_⟩
    have e : okw s = s.all fun c => decide (c ∈ plain) := by
      unfold okw
      rw [decide_eq_true (by omega), Bool.true_and]
    rw [e] at k
    exact k
  · have e : okw s = false := by
      unfold okw
      rw [decide_eq_false (by omega), Bool.false_and]
    rw [e] at k
    exact k
  · have e : okw s = false := by
      unfold okw
      rw [decide_eq_false (by omega), Bool.false_and]
    rw [e] at k
    exact k
theorem okw_len {s : List Nat} (h : okw s = true) : s.length ≤ 8 := by
  unfold okw at h
  rw [Bool.and_eq_true, decide_eq_true_iff] at h
  exact h.1.2
end
local macro_rules | `(tactic| walk_at "rf") => `(tactic| first
  | ((with_reducible apply w_isnum); (· assumption))
  | ((with_reducible apply w_isword); (· assumption))
  | (with_reducible refine Wp.imp ?_)
  | (with_reducible refine Ws.imp ?_)
  | ((with_reducible apply w_draw); (· assumption); (· first | decide | omega); (· first | decide | assumption | exact Nat.lt_of_lt_of_le (lgi (k := 64) (by omega) (by decide)) (by decide)); intro r S' h0 h1 hd)
  | ((with_reducible apply w_one); (· assumption); (· intro h; cases h); (· exact Nat.le_of_ble_eq_true rfl); intro x S' hx hd)
  | ((with_reducible apply w_oneS); (· assumption); (· decide); (· decide); intro x S' hx hd)
  | ((with_reducible apply w_oneT); (· assumption); (· intro h; cases h); (· exact Nat.le_of_ble_eq_true rfl); intro x S' hx hd)
  | ((with_reducible apply f_cons); (· exact rfl))
  | ((with_reducible apply f_nil); (· exact rfl))
  | ((with_reducible apply l_cons); (· exact rfl))
  | ((with_reducible apply l_nil); (· exact rfl))
  | ((with_reducible apply g_len); (· exact rfl); (· first | assumption | omega | (simp only [List.length_append, List.length_cons, List.length_nil]; omega)))
  | ((with_reducible apply g_rng1); (· exact rfl); (· constructor <;> omega))
  | ((with_reducible apply g_rng2); (· exact rfl); (· refine ⟨?_, ?_⟩ <;> constructor <;> omega))
  | (with_reducible refine g_op ?_)
  | ((with_reducible refine g_og ?_ ?_); (· first | assumption | decide | omega | (simp only [List.length_append, List.length_cons, List.length_nil]; omega)))
  | ((with_reducible apply Exists.intro)
     (fail_if_success (with_reducible refine g_og ?_ ?_))
     (repeat (with_reducible apply Exists.intro))
     refine And.intro rfl ?_)
  | (with_reducible refine g_ift ?_)
  | (with_reducible refine g_iff ?_)
  | ((with_reducible refine g_ifd (fun ht => ?_) (fun ht => ?_)) <;> first | (exfalso; omega) | skip)
  | ((with_reducible apply r_isT); (· first | exact rfl | assumption))
  | ((with_reducible apply r_isF); (· first | exact rfl | assumption))
  | ((with_reducible refine r_dec (fun ht => ?_) (fun ht => ?_)) <;> first | (exfalso; omega) | skip)
  | ((with_reducible refine r_ndec (fun ht => ?_) (fun ht => ?_)) <;> first | (exfalso; omega) | skip)
  | ((with_reducible refine And.intro ?_ ?_); exact rfl)
  | ((with_reducible refine And.intro ?_ ?_); exact Nat.le_of_ble_eq_true rfl)
  | (with_reducible exact rfl)
  | (with_reducible apply u_has_signs)
  | (with_reducible apply u_own_error)
  | (with_reducible apply u_items_of)
  | (with_reducible apply u__law_same)
  | (with_reducible apply u__law_text))
section
variable {S : Sto}
theorem own_ok (t : T) (b : Bool) (h : t.ok = true) : c_own_error [t.d, .bl b] S = .ok .non S := ok_of (by
  cases t with
  | odd =>
    unfold T.d
    repeat' walk_at "rf"
  | num i =>
    unfold T.d
    rw [T.ok, decide_eq_true_iff] at h
    repeat' walk_at "rf"
  | word x =>
    unfold T.d
    rw [T.ok] at h
    have hz : x.length ≤ sizeLine := Nat.le_trans (okw_len h) (by decide)
    repeat' walk_at "rf"
  | tup xs =>
    unfold T.d
    repeat' walk_at "rf")
theorem own_row (xs : List D) (b : Bool) : c_own_error [.tup [sRow, .tup xs], .bl b] S = .ok (if b = true then sInside else .non) S := ok_of (by
  cases b <;> repeat' walk_at "rf")
end

end Rf

set_option Elab.async false
set_option linter.all false
set_option maxRecDepth 100000
set_option maxHeartbeats 0
namespace Rf
open PySem PySem.Spec PyProof.Rows L2 TL Rf
local macro_rules | `(tactic| walk_at "rf") => `(tactic| first
  | (with_reducible refine Wp.imp ?_)
  | (with_reducible refine Ws.imp ?_)
  | ((with_reducible apply w_draw); (· assumption); (· first | decide | omega); (· first | decide | assumption | exact Nat.lt_of_lt_of_le (lgi (k := 64) (by omega) (by decide)) (by decide)); intro r S' h0 h1 hd)
  | ((with_reducible apply w_one); (· assumption); (· intro h; cases h); (· exact Nat.le_of_ble_eq_true rfl); intro x S' hx hd)
  | ((with_reducible apply w_oneS); (· assumption); (· decide); (· decide); intro x S' hx hd)
  | ((with_reducible apply w_oneT); (· assumption); (· intro h; cases h); (· exact Nat.le_of_ble_eq_true rfl); intro x S' hx hd)
  | ((with_reducible apply f_cons); (· exact rfl))
  | ((with_reducible apply f_nil); (· exact rfl))
  | ((with_reducible apply l_cons); (· exact rfl))
  | ((with_reducible apply l_nil); (· exact rfl))
  | ((with_reducible apply g_len); (· exact rfl); (· first | assumption | omega | (simp only [List.length_append, List.length_cons, List.length_nil]; omega)))
  | ((with_reducible apply g_rng1); (· exact rfl); (· constructor <;> omega))
  | ((with_reducible apply g_rng2); (· exact rfl); (· refine ⟨?_, ?_⟩ <;> constructor <;> omega))
  | (with_reducible refine g_op ?_)
  | ((with_reducible refine g_og ?_ ?_); (· first | assumption | decide | omega | (simp only [List.length_append, List.length_cons, List.length_nil]; omega)))
  | ((with_reducible apply Exists.intro)
     (fail_if_success (with_reducible refine g_og ?_ ?_))
     (repeat (with_reducible apply Exists.intro))
     refine And.intro rfl ?_)
  | (with_reducible refine g_ift ?_)
  | (with_reducible refine g_iff ?_)
  | ((with_reducible refine g_ifd (fun ht => ?_) (fun ht => ?_)) <;> first | (exfalso; omega) | skip)
  | ((with_reducible apply r_isT); (· first | exact rfl | assumption))
  | ((with_reducible apply r_isF); (· first | exact rfl | assumption))
  | ((with_reducible refine r_dec (fun ht => ?_) (fun ht => ?_)) <;> first | (exfalso; omega) | skip)
  | ((with_reducible refine r_ndec (fun ht => ?_) (fun ht => ?_)) <;> first | (exfalso; omega) | skip)
  | ((with_reducible refine And.intro ?_ ?_); exact rfl)
  | ((with_reducible refine And.intro ?_ ?_); exact Nat.le_of_ble_eq_true rfl)
  | (with_reducible exact rfl)
  | (with_reducible apply u_has_signs)
  | (with_reducible apply u__law_same)
  | (with_reducible apply u__law_text))
def T.kids : T → List T
  | .tup xs => xs
  | .odd => []
  | .num _ => []
  | .word _ => []
theorem T.kid_ok {t u : T} (h : t.ok = true) (hu : u ∈ t.kids) : u.ok = true := by
  cases t with
  | tup xs => rw [T.ok, Bool.and_eq_true] at h; exact T.oks_mem h.2 hu
  | _ => cases hu
theorem T.kid_lv {t u : T} {n : Nat} (h : t.lv < n + 1) (hu : u ∈ t.kids) : u.lv < n := by
  cases t with
  | tup xs => rw [T.lv] at h; have := T.lvs_mem (ts := xs) hu; omega
  | _ => cases hu
theorem T.kid_lv2 {t u : T} (hu : u ∈ t.kids) : u.lv < t.lv := by
  cases t with
  | tup xs => rw [T.lv]; have := T.lvs_mem (ts := xs) hu; omega
  | _ => cases hu
theorem T.kid_len {t : T} (h : t.ok = true) : t.kids.length ≤ 1000 := by
  cases t with
  | tup xs => rw [T.ok, Bool.and_eq_true, decide_eq_true_iff] at h; exact h.1
  | _ => exact Nat.zero_le _
theorem T.kid_sz (t : T) : t.sz = 1 + (t.kids.map T.sz).sum := by
  cases t with
  | tup xs => rw [T.sz, T.szs_sum]; rfl
  | _ => rfl
section
variable {S : Sto}
theorem items_ok (t : T) : c_items_of [t.d] S = .ok (.tup (t.kids.map T.d)) S := ok_of (by
  apply u_items_of
  cases t with
  | tup xs =>
    rw [show (T.tup xs).kids = xs from rfl, ← T.ds_map]
    repeat' walk_at "rf"
  | _ => repeat' walk_at "rf")
theorem items_row (xs : List D) : c_items_of [.tup [sRow, .tup xs]] S = .ok (.tup xs) S := ok_of (by
  apply u_items_of
  repeat' walk_at "rf")
end
local macro_rules | `(tactic| walk_at "rf") => `(tactic| first
  | (with_reducible refine wp.eq (items_ok _) ?_)
  | (with_reducible refine wp.eq (items_row _) ?_)
  | (with_reducible refine wp.eq (own_ok _ _ (by assumption)) ?_)
  | (with_reducible refine wp.eq (own_row _ _) ?_)
  | (with_reducible refine Wp.imp ?_)
  | (with_reducible refine Ws.imp ?_)
  | ((with_reducible apply w_draw); (· assumption); (· first | decide | omega); (· first | decide | assumption | exact Nat.lt_of_lt_of_le (lgi (k := 64) (by omega) (by decide)) (by decide)); intro r S' h0 h1 hd)
  | ((with_reducible apply w_one); (· assumption); (· intro h; cases h); (· exact Nat.le_of_ble_eq_true rfl); intro x S' hx hd)
  | ((with_reducible apply w_oneS); (· assumption); (· decide); (· decide); intro x S' hx hd)
  | ((with_reducible apply w_oneT); (· assumption); (· intro h; cases h); (· exact Nat.le_of_ble_eq_true rfl); intro x S' hx hd)
  | ((with_reducible apply f_cons); (· exact rfl))
  | ((with_reducible apply f_nil); (· exact rfl))
  | ((with_reducible apply l_cons); (· exact rfl))
  | ((with_reducible apply l_nil); (· exact rfl))
  | ((with_reducible apply g_len); (· exact rfl); (· first | assumption | omega | (simp only [List.length_append, List.length_cons, List.length_nil]; omega)))
  | ((with_reducible apply g_rng1); (· exact rfl); (· constructor <;> omega))
  | ((with_reducible apply g_rng2); (· exact rfl); (· refine ⟨?_, ?_⟩ <;> constructor <;> omega))
  | (with_reducible refine g_op ?_)
  | ((with_reducible refine g_og ?_ ?_); (· first | assumption | decide | omega | (simp only [List.length_append, List.length_cons, List.length_nil]; omega)))
  | ((with_reducible apply Exists.intro)
     (fail_if_success (with_reducible refine g_og ?_ ?_))
     (repeat (with_reducible apply Exists.intro))
     refine And.intro rfl ?_)
  | (with_reducible refine g_ift ?_)
  | (with_reducible refine g_iff ?_)
  | ((with_reducible refine g_ifd (fun ht => ?_) (fun ht => ?_)) <;> first | (exfalso; omega) | skip)
  | ((with_reducible apply r_isT); (· first | exact rfl | assumption))
  | ((with_reducible apply r_isF); (· first | exact rfl | assumption))
  | ((with_reducible refine r_dec (fun ht => ?_) (fun ht => ?_)) <;> first | (exfalso; omega) | skip)
  | ((with_reducible refine r_ndec (fun ht => ?_) (fun ht => ?_)) <;> first | (exfalso; omega) | skip)
  | ((with_reducible refine And.intro ?_ ?_); exact rfl)
  | ((with_reducible refine And.intro ?_ ?_); exact Nat.le_of_ble_eq_true rfl)
  | (with_reducible exact rfl)
  | (with_reducible apply u_has_signs)
  | (with_reducible apply u__law_same)
  | (with_reducible apply u__law_text))
theorem size_ok : ∀ (n : Nat) (t : T) (S : Sto), t.ok = true → t.lv < n → c_size_of n [t.d] S = .ok (.int t.sz) S
  | 0, _, _, _, h => absurd h (Nat.not_lt_zero _)
  | n + 1, t, S, h, hl => ok_of (by
    apply u_size_of
    repeat' walk_at "rf"
    refine wp.eq (a := t.kids.map fun u => .int u.sz) (S := S) (lc_eq _ (fun u hu => ⟨_, rfl, rfl, ?_⟩) (Nat.le_trans (T.kid_len h) (by decide))) ?_
    · exact size_ok n u S (T.kid_ok h hu) (T.kid_lv hl hu)
    refine r_aNil ⟨_, sum_map _ _, ?_⟩
    rw [T.kid_sz t]
    repeat' walk_at "rf")
theorem fe_ok : ∀ (n : Nat) (t : T) (ps : List Int) (S : Sto), t.ok = true → t.lv < n → ps.length + t.lv ≤ 10000 → c_first_error n [t.d, .tup (ps.map .int)] S = .ok .non S
  | 0, _, _, _, _, h, _ => absurd h (Nat.not_lt_zero _)
  | n + 1, t, ps, S, h, hl, hz => ok_of (by
    apply u_first_error
    repeat' walk_at "rf"
    refine ⟨_, cNe_ints ps [], ?_⟩
    repeat' walk_at "rf"
    show wps (forL none _ _ _ (enF 0 (t.kids.map T.d)) _ _) _
    refine wps_en (fun j as L S' => S' = S ∧ (∃ a b c, L = [.v t.d, .v (.tup (ps.map .int)), .v .non, a, b, c]) ∧ ∀ u ∈ as, u ∈ t.kids) ?_ ?_ _ _ _ _ ⟨rfl, ⟨_, _, _, rfl⟩, fun u hu => hu⟩
    · rintro j u as L S' ⟨rfl, ⟨a, b, c, rfl⟩, hu⟩
      have hk := hu u List.mem_cons_self
      have h2 := T.kid_lv2 hk
      refine ⟨_, rfl, ?_⟩
      have big : 100000 ≤ sizeLine := by decide
      have hz2 : (ps.map D.int).length + [D.int j].length ≤ sizeLine := by rw [List.length_map, List.length_singleton]; omega
      repeat' walk_at "rf"
      have e : ps.map D.int ++ [D.int j] = (ps ++ [j]).map .int := by rw [List.map_append]; rfl
      rw [e]
      refine wp.eq (fe_ok n u (ps ++ [j]) S' (T.kid_ok h hk) (T.kid_lv hl hk) (by rw [List.length_append, List.length_singleton]; omega)) ?_
      repeat' walk_at "rf"
      exact ⟨⟨_, _, _, rfl⟩, fun v hv => hu v (List.mem_cons_of_mem _ hv)⟩
    · rintro j L S' ⟨rfl, ⟨a, b, c, rfl⟩, hu⟩
      repeat' walk_at "rf")
local macro_rules | `(tactic| walk_at "rf") => `(tactic| first
  | (with_reducible refine wp.eq (items_ok _) ?_)
  | (with_reducible refine wp.eq (items_row _) ?_)
  | (with_reducible refine wp.eq (own_ok _ _ (by assumption)) ?_)
  | (with_reducible refine wp.eq (own_row _ _) ?_)
  | (with_reducible refine wp.eq (size_ok _ _ _ (by assumption) (by assumption)) ?_)
  | ((with_reducible refine wp.eq (fe_ok _ _ [] _ (by assumption) (by assumption) ?_) ?_); (· first | omega | (simp only [List.length_nil]; omega)))
  | (with_reducible refine Wp.imp ?_)
  | (with_reducible refine Ws.imp ?_)
  | ((with_reducible apply w_draw); (· assumption); (· first | decide | omega); (· first | decide | assumption | exact Nat.lt_of_lt_of_le (lgi (k := 64) (by omega) (by decide)) (by decide)); intro r S' h0 h1 hd)
  | ((with_reducible apply w_one); (· assumption); (· intro h; cases h); (· exact Nat.le_of_ble_eq_true rfl); intro x S' hx hd)
  | ((with_reducible apply w_oneS); (· assumption); (· decide); (· decide); intro x S' hx hd)
  | ((with_reducible apply w_oneT); (· assumption); (· intro h; cases h); (· exact Nat.le_of_ble_eq_true rfl); intro x S' hx hd)
  | ((with_reducible apply f_cons); (· exact rfl))
  | ((with_reducible apply f_nil); (· exact rfl))
  | ((with_reducible apply l_cons); (· exact rfl))
  | ((with_reducible apply l_nil); (· exact rfl))
  | ((with_reducible apply g_len); (· exact rfl); (· first | assumption | omega | (simp only [List.length_append, List.length_cons, List.length_nil]; omega)))
  | ((with_reducible apply g_rng1); (· exact rfl); (· constructor <;> omega))
  | ((with_reducible apply g_rng2); (· exact rfl); (· refine ⟨?_, ?_⟩ <;> constructor <;> omega))
  | (with_reducible refine g_op ?_)
  | ((with_reducible refine g_og ?_ ?_); (· first | assumption | decide | omega | (simp only [List.length_append, List.length_cons, List.length_nil]; omega)))
  | ((with_reducible apply Exists.intro)
     (fail_if_success (with_reducible refine g_og ?_ ?_))
     (repeat (with_reducible apply Exists.intro))
     refine And.intro rfl ?_)
  | (with_reducible refine g_ift ?_)
  | (with_reducible refine g_iff ?_)
  | ((with_reducible refine g_ifd (fun ht => ?_) (fun ht => ?_)) <;> first | (exfalso; omega) | skip)
  | ((with_reducible apply r_isT); (· first | exact rfl | assumption))
  | ((with_reducible apply r_isF); (· first | exact rfl | assumption))
  | ((with_reducible refine r_dec (fun ht => ?_) (fun ht => ?_)) <;> first | (exfalso; omega) | skip)
  | ((with_reducible refine r_ndec (fun ht => ?_) (fun ht => ?_)) <;> first | (exfalso; omega) | skip)
  | ((with_reducible refine And.intro ?_ ?_); exact rfl)
  | ((with_reducible refine And.intro ?_ ?_); exact Nat.le_of_ble_eq_true rfl)
  | (with_reducible exact rfl)
  | (with_reducible apply u_has_signs)
  | (with_reducible apply u__law_same)
  | (with_reducible apply u__law_text))
section
variable {S : Sto}
theorem look_ok (t : T) (h : t.ok = true) (hl : t.lv < 40) : c_look_error [t.d] S = .ok (if 30 < t.sz then .tup [.tup [], sSize] else .non) S := ok_of (by
  apply u_look_error
  cases t <;> repeat' walk_at "rf"
  · rename_i ht
    exact ⟨(if_pos ht).symm, rfl⟩
  · rename_i ht
    exact ⟨(if_neg ht).symm, rfl⟩)
/-- the first item that is too great -/
def rowAt : Int → List T → D
  | _, [] => .non
  | j, t :: ts => if 30 < t.sz then .tup [.tup [.int j], sSize] else rowAt (j + 1) ts
theorem fe_row (xs : List T) (h : T.oks xs = true) (hl : T.lvs xs < 39) : c_first_error 40 [.tup [sRow, .tup (xs.map T.d)], .tup []] S = .ok .non S := ok_of (by
  apply u_first_error
  repeat' walk_at "rf"
  show wps (forL none _ _ _ (enF 0 (xs.map T.d)) _ _) _
  refine wps_en (fun j as L S' => S' = S ∧ (∃ a b c, L = [.v (.tup [sRow, .tup (xs.map T.d)]), .v (.tup []), .v .non, a, b, c]) ∧ ∀ u ∈ as, u ∈ xs) ?_ ?_ _ _ _ _ ⟨rfl, ⟨_, _, _, rfl⟩, fun u hu => hu⟩
  · rintro j u as L S' ⟨rfl, ⟨a, b, c, rfl⟩, hu⟩
    have hk := hu u List.mem_cons_self
    have h2 := T.lvs_mem hk
    refine ⟨_, rfl, ?_⟩
    repeat' walk_at "rf"
    refine wp.eq (fe_ok 39 u [j] S' (T.oks_mem h hk) (by omega) (by simp; omega)) ?_
    repeat' walk_at "rf"
    exact ⟨⟨_, _, _, rfl⟩, fun v hv => hu v (List.mem_cons_of_mem _ hv)⟩
  · rintro j L S' ⟨rfl, ⟨a, b, c, rfl⟩, hu⟩
    repeat' walk_at "rf")
theorem look_row (xs : List T) (h : T.oks xs = true) (hl : T.lvs xs < 39) (hz : xs.length ≤ 1000) : c_look_error [.tup [sRow, .tup (xs.map T.d)]] S = .ok (if 30 < xs.length then .tup [.tup [], sLong] else rowAt 0 xs) S := ok_of (by
  apply u_look_error
  repeat' walk_at "rf"
  refine wp.eq (fe_row xs h hl) ?_
  repeat' walk_at "rf"
  · rename_i ht
    rw [List.length_map] at ht
    exact ⟨(if_pos (by omega)).symm, rfl⟩
  · rename_i ht
    rw [List.length_map] at ht
    show wps (forL none _ _ _ (enF 0 (xs.map T.d)) _ _) _
    refine wps_en (fun j as L S' => S' = S ∧ (∃ a b, L = [.v (.tup [sRow, .tup (xs.map T.d)]), .v .non, a, b]) ∧ (∀ u ∈ as, u ∈ xs) ∧ rowAt 0 xs = rowAt j as) ?_ ?_ _ _ _ _ ⟨rfl, ⟨_, _, rfl⟩, fun u hu => hu, rfl⟩
    · rintro j u as L S' ⟨rfl, ⟨a, b, rfl⟩, hu, hr⟩
      have hk := hu u List.mem_cons_self
      have h2 := T.lvs_mem hk
      have h3 := T.oks_mem h hk
      have h4 : u.lv < 40 := by omega
      refine ⟨_, rfl, ?_⟩
      repeat' walk_at "rf"
      · rename_i hs
        refine ⟨?_, rfl⟩
        rw [if_neg (by omega), hr, rowAt, if_pos hs]
      · rename_i hs
        refine ⟨⟨_, _, rfl⟩, fun v hv => hu v (List.mem_cons_of_mem _ hv), ?_⟩
        rw [hr, rowAt, if_neg hs]
    · rintro j L S' ⟨rfl, ⟨a, b, rfl⟩, hu, hr⟩
      repeat' walk_at "rf"
      refine ⟨?_, rfl⟩
      rw [if_neg (by omega), hr, rowAt])
theorem size_row (xs : List T) (h : T.oks xs = true) (hl : T.lvs xs < 39) (hz : xs.length ≤ 1000) : c_size_of 40 [.tup [sRow, .tup (xs.map T.d)]] S = .ok (.int (1 + T.szs xs)) S := ok_of (by
  apply u_size_of
  repeat' walk_at "rf"
  refine wp.eq (a := xs.map fun u => .int u.sz) (S := S) (lc_eq _ (fun u hu => ⟨_, rfl, rfl, ?_⟩) (Nat.le_trans hz (by decide))) ?_
  · exact size_ok 39 u S (T.oks_mem h hu) (by have := T.lvs_mem hu; omega)
  refine r_aNil ⟨_, sum_map _ _, ?_⟩
  rw [T.szs_sum]
  repeat' walk_at "rf")
end

end Rf

set_option Elab.async false
set_option linter.all false
set_option maxRecDepth 100000
set_option maxHeartbeats 0
namespace Rf
open PySem PySem.Spec PyProof.Rows L2 TL Rf
local macro_rules | `(tactic| walk_at "rf") => `(tactic| first
  | (with_reducible refine Wp.imp ?_)
  | (with_reducible refine Ws.imp ?_)
  | ((with_reducible apply w_draw); (· assumption); (· first | decide | omega); (· first | decide | assumption | exact Nat.lt_of_lt_of_le (lgi (k := 64) (by omega) (by decide)) (by decide)); intro r S' h0 h1 hd)
  | ((with_reducible apply w_one); (· assumption); (· intro h; cases h); (· exact Nat.le_of_ble_eq_true rfl); intro x S' hx hd)
  | ((with_reducible apply w_oneS); (· assumption); (· decide); (· decide); intro x S' hx hd)
  | ((with_reducible apply w_oneT); (· assumption); (· intro h; cases h); (· exact Nat.le_of_ble_eq_true rfl); intro x S' hx hd)
  | ((with_reducible apply f_cons); (· exact rfl))
  | ((with_reducible apply f_nil); (· exact rfl))
  | ((with_reducible apply l_cons); (· exact rfl))
  | ((with_reducible apply l_nil); (· exact rfl))
  | ((with_reducible apply g_len); (· exact rfl); (· first | assumption | omega | (simp only [List.length_append, List.length_cons, List.length_nil]; omega)))
  | ((with_reducible apply g_rng1); (· exact rfl); (· constructor <;> omega))
  | ((with_reducible apply g_rng2); (· exact rfl); (· refine ⟨?_, ?_⟩ <;> constructor <;> omega))
  | (with_reducible refine g_op ?_)
  | ((with_reducible refine g_og ?_ ?_); (· first | assumption | decide | omega | (simp only [List.length_append, List.length_cons, List.length_nil]; omega)))
  | ((with_reducible apply Exists.intro)
     (fail_if_success (with_reducible refine g_og ?_ ?_))
     (repeat (with_reducible apply Exists.intro))
     refine And.intro rfl ?_)
  | (with_reducible refine g_ift ?_)
  | (with_reducible refine g_iff ?_)
  | ((with_reducible refine g_ifd (fun ht => ?_) (fun ht => ?_)) <;> first | (exfalso; omega) | skip)
  | ((with_reducible apply r_isT); (· first | exact rfl | assumption))
  | ((with_reducible apply r_isF); (· first | exact rfl | assumption))
  | ((with_reducible refine r_dec (fun ht => ?_) (fun ht => ?_)) <;> first | (exfalso; omega) | skip)
  | ((with_reducible refine r_ndec (fun ht => ?_) (fun ht => ?_)) <;> first | (exfalso; omega) | skip)
  | ((with_reducible refine And.intro ?_ ?_); exact rfl)
  | ((with_reducible refine And.intro ?_ ?_); exact Nat.le_of_ble_eq_true rfl)
  | (with_reducible exact rfl)
  | (with_reducible apply u__law_signs)
  | (with_reducible apply u_has_signs)
  | (with_reducible apply u__law_same))
section
variable {T0 S : Sto} {n : Nat} {P : D → Sto → Prop}
theorem signs_eq (S : Sto) : ∃ z, c__law_signs [] S = .ok (.str z) S ∧ cutD z none (some 26) = [97, 98, 99, 100, 101, 102, 103, 104, 105, 106, 107, 108, 109, 110, 111, 112, 113, 114, 115, 116, 117, 118, 119, 120, 121, 122] ∧ z.length ≤ 1000 := ⟨_, rfl, by decide, by decide⟩
theorem plain_ok {s : List Nat} (h1 : 1 ≤ s.length) (h2 : s.length ≤ 8) (h : ∀ c ∈ s, c ∈ Rf.plain) : okw s = true := by
  unfold okw
  rw [decide_eq_true ⟨h1, h2⟩, Bool.true_and, List.all_eq_true]
  exact fun c hc => decide_eq_true (h c hc)
theorem w_word (hd : Deck T0 (n + 9) S) (k : ∀ (w : List Nat) (S' : Sto), okw w = true → Deck T0 n S' → P (.str w) S') : wp (c__law_word [.obj 1] S) P := by
  have big : 100000 ≤ sizeLine := by decide
  refine u__law_word ?_
  have hd : Deck T0 (n + 8 + 1) S := hd
  repeat' walk_at "rf"
  rename_i r S1 r0 r1 hd1
  refine w_text (n := n) (M := 8) hd1 (by omega) (by omega) (by decide) (by decide) (by decide) fun s S3 e1 e2 hd3 => ?_
  repeat' walk_at "rf"
  exact k s S3 (plain_ok (by omega) (by omega) e2) hd3
end

theorem ix2 {a b : D} {r : Int} {P : D → Prop} (h0 : 0 ≤ r) (h1 : r < 2) (ka : r = 0 → P a) (kb : r = 1 → P b) : ∃ z, oIx (.lst [a, b]) (.int r) = some z ∧ P z := by
  have hr : r = 0 ∨ r = 1 := by omega
  rcases hr with rfl | rfl
  · exact ⟨a, rfl, ka rfl⟩
  · exact ⟨b, rfl, kb rfl⟩
theorem big_mul {a b : Int} (ha : a.natAbs < 2 ^ 500) (hb : b.natAbs < 2 ^ 500) : a.natAbs.log2 + b.natAbs.log2 < 1000000 := by
  have h1 : a.natAbs.log2 < 500 := lgi ha (by decide)
  have h2 : b.natAbs.log2 < 500 := lgi hb (by decide)
  omega
local macro_rules | `(tactic| walk_at "rf") => `(tactic| first
  | ((with_reducible apply ix2); (· omega); (· omega); (· intro hr; subst hr); (intro hr; subst hr))
  | (with_reducible refine Wp.imp ?_)
  | (with_reducible refine Ws.imp ?_)
  | ((with_reducible apply w_draw); (· assumption); (· first | decide | omega); (· first | decide | assumption | exact Nat.lt_of_lt_of_le (lgi (k := 64) (by omega) (by decide)) (by decide)); intro r S' h0 h1 hd)
  | ((with_reducible apply w_one); (· assumption); (· intro h; cases h); (· exact Nat.le_of_ble_eq_true rfl); intro x S' hx hd)
  | ((with_reducible apply w_oneS); (· assumption); (· decide); (· decide); intro x S' hx hd)
  | ((with_reducible apply w_oneT); (· assumption); (· intro h; cases h); (· exact Nat.le_of_ble_eq_true rfl); intro x S' hx hd)
  | ((with_reducible apply f_cons); (· exact rfl))
  | ((with_reducible apply f_nil); (· exact rfl))
  | ((with_reducible apply l_cons); (· exact rfl))
  | ((with_reducible apply l_nil); (· exact rfl))
  | ((with_reducible apply g_len); (· exact rfl); (· first | assumption | omega | (simp only [List.length_append, List.length_cons, List.length_nil]; omega)))
  | ((with_reducible apply g_rng1); (· exact rfl); (· constructor <;> omega))
  | ((with_reducible apply g_rng2); (· exact rfl); (· refine ⟨?_, ?_⟩ <;> constructor <;> omega))
  | (with_reducible refine g_op ?_)
  | ((with_reducible refine g_og ?_ ?_); (· first | assumption | decide | omega | (simp only [List.length_append, List.length_cons, List.length_nil]; omega)))
  | ((with_reducible apply Exists.intro)
     (fail_if_success (with_reducible refine g_og ?_ ?_))
     (repeat (with_reducible apply Exists.intro))
     refine And.intro rfl ?_)
  | (with_reducible refine g_ift ?_)
  | (with_reducible refine g_iff ?_)
  | ((with_reducible refine g_ifd (fun ht => ?_) (fun ht => ?_)) <;> first | (exfalso; omega) | skip)
  | ((with_reducible apply r_isT); (· first | exact rfl | assumption))
  | ((with_reducible apply r_isF); (· first | exact rfl | assumption))
  | ((with_reducible refine r_dec (fun ht => ?_) (fun ht => ?_)) <;> first | (exfalso; omega) | skip)
  | ((with_reducible refine r_ndec (fun ht => ?_) (fun ht => ?_)) <;> first | (exfalso; omega) | skip)
  | ((with_reducible refine And.intro ?_ ?_); exact rfl)
  | ((with_reducible refine And.intro ?_ ?_); exact Nat.le_of_ble_eq_true rfl)
  | (with_reducible exact rfl)
  | (with_reducible apply u__law_signs)
  | (with_reducible apply u_has_signs)
  | (with_reducible apply u__law_same))
section
variable {T0 S : Sto} {n : Nat} {P : D → Sto → Prop}
theorem w_number (hd : Deck T0 (n + 6) S) (k : ∀ (i : Int) (S' : Sto), i.natAbs < 10 ^ 150 → Deck T0 n S' → P (.int i) S') : wp (c__law_number [.obj 1] S) P := by
  have m1 : ((10 : Int) ^ Int.toNat 30).natAbs.log2 + ((10 : Int) ^ Int.toNat 30).natAbs.log2 < 1000000 := by decide +kernel
  have m2 : ((10 : Int) ^ Int.toNat 30 * 10 ^ Int.toNat 30).natAbs.log2 + ((10 : Int) ^ Int.toNat 30).natAbs.log2 < 1000000 := by decide +kernel
  refine u__law_number ?_
  have hd : Deck T0 (n + 5 + 1) S := hd
  repeat' walk_at "rf"
  · rename_i r S1 r0 r1 ht _
    have hr : r = 0 ∨ r = 1 := by omega
    rcases hr with rfl | rfl
    · refine ⟨.int 5, rfl, ?_⟩
      repeat' walk_at "rf"
      exact k _ _ (by omega) (Deck.le (by assumption) (by omega))
    · refine ⟨.int 2001, rfl, ?_⟩
      repeat' walk_at "rf"
      exact k _ _ (by omega) (Deck.le (by assumption) (by omega))
  · rename_i x S2 hx hd2
    show P x S2
    simp only [List.mem_cons, List.not_mem_nil, or_false] at hx
    rcases hx with rfl | rfl | rfl | rfl | rfl
    all_goals exact k _ _ (by decide +kernel) (hd2.le (by omega))
  · rename_i r S2 r0 r1 hd2
    have e30 : (10 : Int) ^ Int.toNat 30 = 1000000000000000000000000000000 := by decide +kernel
    rw [e30] at r1 ⊢
    refine ⟨_, x_muli (big_mul (by omega) (by decide +kernel)), ?_⟩
    repeat' walk_at "rf"
    rename_i r2 S3 q0 q1 hd3 x S5 hx hd5
    rw [e30] at q1
    simp only [List.mem_cons, List.not_mem_nil, or_false] at hx
    rcases hx with rfl | rfl
    all_goals
      refine ⟨_, x_muli (big_mul (by omega) (by decide +kernel)), ?_⟩
      repeat' walk_at "rf"
      refine k _ _ ?_ (hd5.le (by omega))
      omega
end

theorem szs_len3 : ∀ ts : List T, (ts.length : Int) ≤ T.szs ts
  | [] => by rw [T.szs]; simp
  | t :: ts => by rw [T.szs, List.length_cons]; have := T.sz_pos t; have := szs_len3 ts; omega
theorem szs_app3 : ∀ (ts : List T) (t : T), T.szs (ts ++ [t]) = T.szs ts + t.sz
  | [], t => by simp [T.szs]
  | u :: ts, t => by rw [List.cons_append, T.szs, szs_app3 ts t, T.szs]; omega
theorem oks_app3 : ∀ {ts : List T} {t : T}, T.oks ts = true → t.ok = true → T.oks (ts ++ [t]) = true
  | [], t, _, h => by simp [T.oks, h]
  | u :: ts, t, h, h2 => by
    rw [T.oks, Bool.and_eq_true] at h
    rw [List.cons_append, T.oks, h.1, oks_app3 h.2 h2]; rfl
theorem lvs_app3 : ∀ {ts : List T} {t : T} {m : Nat}, T.lvs ts ≤ m → t.lv ≤ m → T.lvs (ts ++ [t]) ≤ m
  | [], t, m, _, h => by simp [T.lvs]; exact h
  | u :: ts, t, m, h, h2 => by
    rw [T.lvs] at h
    rw [List.cons_append, T.lvs]
    have := lvs_app3 (ts := ts) (t := t) (m := m) (by omega) h2
    omega
local macro_rules | `(tactic| walk_at "rf") => `(tactic| first
  | (with_reducible refine Wp.imp ?_)
  | (with_reducible refine Ws.imp ?_)
  | ((with_reducible apply w_draw); (· assumption); (· first | decide | omega); (· first | decide | assumption | exact Nat.lt_of_lt_of_le (lgi (k := 64) (by omega) (by decide)) (by decide)); intro r S' h0 h1 hd)
  | ((with_reducible apply w_one); (· assumption); (· intro h; cases h); (· exact Nat.le_of_ble_eq_true rfl); intro x S' hx hd)
  | ((with_reducible apply w_oneS); (· assumption); (· decide); (· decide); intro x S' hx hd)
  | ((with_reducible apply w_oneT); (· assumption); (· intro h; cases h); (· exact Nat.le_of_ble_eq_true rfl); intro x S' hx hd)
  | ((with_reducible apply f_cons); (· exact rfl))
  | ((with_reducible apply f_nil); (· exact rfl))
  | ((with_reducible apply l_cons); (· exact rfl))
  | ((with_reducible apply l_nil); (· exact rfl))
  | ((with_reducible apply g_len); (· exact rfl); (· first | assumption | omega | (simp only [List.length_append, List.length_cons, List.length_nil]; omega)))
  | ((with_reducible apply g_rng1); (· exact rfl); (· constructor <;> omega))
  | ((with_reducible apply g_rng2); (· exact rfl); (· refine ⟨?_, ?_⟩ <;> constructor <;> omega))
  | (with_reducible refine g_op ?_)
  | ((with_reducible refine g_og ?_ ?_); (· first | assumption | decide | omega | (simp only [List.length_append, List.length_cons, List.length_nil]; omega)))
  | ((with_reducible apply Exists.intro)
     (fail_if_success (with_reducible refine g_og ?_ ?_))
     (repeat (with_reducible apply Exists.intro))
     refine And.intro rfl ?_)
  | (with_reducible refine g_ift ?_)
  | (with_reducible refine g_iff ?_)
  | ((with_reducible refine g_ifd (fun ht => ?_) (fun ht => ?_)) <;> first | (exfalso; omega) | skip)
  | ((with_reducible apply r_isT); (· first | exact rfl | assumption))
  | ((with_reducible apply r_isF); (· first | exact rfl | assumption))
  | ((with_reducible refine r_dec (fun ht => ?_) (fun ht => ?_)) <;> first | (exfalso; omega) | skip)
  | ((with_reducible refine r_ndec (fun ht => ?_) (fun ht => ?_)) <;> first | (exfalso; omega) | skip)
  | ((with_reducible refine And.intro ?_ ?_); exact rfl)
  | ((with_reducible refine And.intro ?_ ?_); exact Nat.le_of_ble_eq_true rfl)
  | (with_reducible exact rfl)
  | (with_reducible apply u__law_signs)
  | (with_reducible apply u_has_signs)
  | (with_reducible apply u__law_same))
theorem lsize_ok : ∀ (n : Nat) (t : T) (S : Sto), t.ok = true → t.lv < n → c__law_size n [t.d] S = .ok (.int t.sz) S
  | 0, _, _, _, h => absurd h (Nat.not_lt_zero _)
  | n + 1, t, S, h, hl => ok_of (by
    refine u__law_size ?_
    cases t with
    | tup xs =>
      rw [T.lv] at hl
      rw [T.ok, Bool.and_eq_true, decide_eq_true_iff] at h
      have big : 100000 ≤ sizeLine := by decide
      rw [T.d, T.ds_map, T.sz, T.szs_sum]
      repeat' walk_at "rf"
      refine wp.eq (a := xs.map fun u => .int u.sz) (S := S) (lc_eq _ (fun u hu => ⟨_, rfl, rfl, ?_⟩) (by omega)) ?_
      · exact lsize_ok n u S (T.oks_mem h.2 hu) (by have := T.lvs_mem hu; omega)
      refine r_aNil ⟨_, sum_map _ _, ?_⟩
      repeat' walk_at "rf"
    | odd => rw [T.d]; repeat' walk_at "rf"
    | num i => rw [T.d]; repeat' walk_at "rf"
    | word w => rw [T.d]; repeat' walk_at "rf")
theorem lsize_row (xs : List D) (S : Sto) : c__law_size 40 [.tup [sRow, .tup xs]] S = .ok (.int 1) S := ok_of (by
  refine u__law_size ?_
  repeat' walk_at "rf")
section
variable {T0 S : Sto} {n : Nat} {P : D → Sto → Prop}
theorem w_atom (hd : Deck T0 (n + 10) S) (k : ∀ (t : T) (S' : Sto), t.ok = true → t.sz = 1 → t.lv ≤ 1 → Deck T0 n S' → P t.d S') : wp (c__law_atom [.obj 1] S) P := by
  refine u__law_atom ?_
  have hd : Deck T0 (n + 9 + 1) S := hd
  repeat' walk_at "rf"
  · exact k .odd _ rfl rfl (by decide) (Deck.le (by assumption) (by omega))
  · refine w_word (n := n) (by assumption) fun w S2 hw hd2 => ?_
    repeat' walk_at "rf"
    exact k (.word w) _ hw rfl (Nat.zero_le 1) hd2
  · refine w_number (n := n) (Deck.le (by assumption) (by omega)) fun i S2 hi hd2 => ?_
    repeat' walk_at "rf"
    exact k (.num i) _ (decide_eq_true hi) rfl (Nat.zero_le 1) hd2
  · exact k (.tup []) _ rfl rfl (by decide) (Deck.le (by assumption) (by omega))
end
/-- how many draws a look of so many levels takes at most -/
def cost : Nat → Nat
  | 0 => 0
  | b + 1 => 44 + 29 * cost b
theorem w_look : ∀ (f b : Nat) (s l : Int) {T0 S : Sto} {n : Nat} {P : D → Sto → Prop}, 1 ≤ s → s ≤ 100 → b ≤ f → 1 ≤ b → l ≤ b → b ≤ 30 → Deck T0 (n + cost b) S →
    (∀ (t : T) (S' : Sto), t.ok = true → t.sz ≤ s → t.lv ≤ b → Deck T0 n S' → P t.d S') → wp (c__law_look f [.obj 1, .int s, .int l] S) P
  | 0, _, _, _, _, _, _, _, _, _, h, h', _, _, _, _ => by omega
  | f + 1, 0, _, _, _, _, _, _, _, _, _, h', _, _, _, _ => by omega
  | f + 1, b + 1, s, l, T0, S, n, P, h1, h2, hb, h3, h4, h30, hd, k => by
    have big : 100000 ≤ sizeLine := by decide
    rw [cost] at hd
    have atom : ∀ {S' : Sto} {Q : D → Sto → Prop}, Deck T0 (n + 10) S' → (∀ (d : D) (S2 : Sto), P d S2 → Q d S2) → wp (c__law_atom [.obj 1] S') Q := fun hd' kk => w_atom (n := n) hd' fun t S2 a1 a2 a3 a4 => kk _ _ (k t S2 a1 (by omega) (by omega) a4)
    refine u__law_look ?_
    have hd : Deck T0 (n + 29 * (cost b + 1) + 1 + 1 + 1) S := hd.le (by omega)
    repeat' walk_at "rf"
    · refine atom (Deck.le (by assumption) (by omega)) fun d S2 h => ?_
      repeat' walk_at "rf"
      exact h
    · refine atom (Deck.le (by assumption) (by omega)) fun d S2 h => ?_
      repeat' walk_at "rf"
      exact h
    · refine atom (Deck.le (by assumption) (by omega)) fun d S2 h => ?_
      repeat' walk_at "rf"
      exact h
    · rename_i x S2 hx hd2
      obtain ⟨v, rfl, v1, v2⟩ : ∃ v : Int, x = .int v ∧ 1 ≤ v ∧ v ≤ 30 := by
        simp only [List.mem_cons, List.not_mem_nil, or_false] at hx
        rcases hx with rfl | rfl | rfl
        all_goals exact ⟨_, rfl, by omega, by omega⟩
      repeat' walk_at "rf"
      rename_i r S3 r0 r1 hd3
      have hm : r.toNat * (cost b + 1) ≤ 29 * (cost b + 1) := Nat.mul_le_mul_right _ (by omega)
      refine wps_rng (fun j m L S' => ∃ (ts : List T) (left : Int) (x y : LV), L = [.v (.obj 1), .v (.int s), .v (.int l), .o (.lst (ts.map T.d)), .v (.int left), x, y] ∧
        T.oks ts = true ∧ T.szs ts + left = s - 1 ∧ 0 ≤ left ∧ T.lvs ts ≤ b ∧ Deck T0 (n + m * (cost b + 1)) S') ?_ ?_ _ _ _ _ ⟨[], s - 1, _, _, rfl, rfl, by simp [T.szs], by omega, by simp [T.lvs], hd3.le (by omega)⟩
      · rintro j m L S' ⟨ts, left, x, y, rfl, e1, e2, e3, e5, hd⟩
        have e6 := szs_len3 ts
        have e7 : (m + 1) * (cost b + 1) = m * (cost b + 1) + (cost b + 1) := Nat.succ_mul _ _
        refine ⟨_, rfl, ?_⟩
        have hd : Deck T0 (n + m * (cost b + 1) + cost b + 1) S' := hd.le (by omega)
        repeat' walk_at "rf"
        · rename_i r1 S2 g0 g1 hd2
          refine w_look f b (1 + r1) (l - 1) (n := n + m * (cost b + 1)) (by omega) (by omega) (by omega) (by omega) (by omega) (by omega) hd2 fun t S3 a1 a2 a3 a4 => ?_
          have e8 : (ts.map T.d).length < sizeLine := by rw [List.length_map]; omega
          have e9 := lsize_ok 40 t S3 a1 (by omega)
          have tp := t.sz_pos
          repeat' walk_at "rf"
          refine wp.eq e9 ?_
          repeat' walk_at "rf"
          refine ⟨e8, ts ++ [t], left - t.sz, _, _, by rw [List.map_append]; rfl, oks_app3 e1 a1, by rw [szs_app3]; omega, by omega, lvs_app3 e5 a3, a4⟩
        · exact ⟨e1, e2, e3, e5, hd.le (by omega)⟩
      · rintro j L S' ⟨ts, left, x, y, rfl, e1, e2, e3, e5, hd⟩
        have e6 := szs_len3 ts
        repeat' walk_at "rf"
        rw [← T.ds_map]
        exact k (.tup ts) S' (by rw [T.ok, e1, decide_eq_true (by omega)]; rfl) (by rw [T.sz]; omega) (by rw [T.lv]; omega) (hd.le (by omega))
/-- a look as the law draws it -/
theorem w_any {T0 S : Sto} {n : Nat} {P : D → Sto → Prop} (hd : Deck T0 (n + 3 * cost 6) S) (k1 : ∀ (t : T) (S' : Sto), t.ok = true → t.sz ≤ 30 → t.lv ≤ 6 → Deck T0 n S' → P t.d S')
    (k2 : ∀ (ts : List T) (S' : Sto), T.oks ts = true → ts.length ≤ 30 → T.lvs ts ≤ 6 → (∀ t ∈ ts, t.sz ≤ 30) → Deck T0 n S' → P (.tup [sRow, .tup (ts.map T.d)]) S') : wp (c__law_any_look [.obj 1, .int 6] S) P := by
  refine u__law_any_look ?_
  have big : 100000 ≤ sizeLine := by decide
  have e65 : cost 6 = 44 + 29 * cost 5 := rfl
  have hd : Deck T0 (n + (cost 6 + 31 * (cost 5 + 1)) + 1 + 1 + 1) S := hd.le (by omega)
  repeat' walk_at "rf"
  · refine w_look 40 6 30 6 (n := n) (by omega) (by omega) (by omega) (by omega) (by omega) (by omega) (Deck.le (by assumption) (by omega)) fun t S3 a1 a2 a3 a4 => ?_
    repeat' walk_at "rf"
    exact k1 t S3 a1 a2 a3 a4
  · rename_i x S2 hx hd2
    obtain ⟨v, rfl, v1, v2⟩ : ∃ v : Int, x = .int v ∧ 1 ≤ v ∧ v ≤ 31 := by
      simp only [List.mem_cons, List.not_mem_nil, or_false] at hx
      rcases hx with rfl | rfl | rfl
      all_goals exact ⟨_, rfl, by omega, by omega⟩
    repeat' walk_at "rf"
    rename_i r S3 r0 r1 hd3
    have hm : r.toNat * (cost 5 + 1) ≤ 31 * (cost 5 + 1) := Nat.mul_le_mul_right _ (by omega)
    refine lc_rng (fun j m acc S => ∃ ts : List T, acc = ts.map T.d ∧ ts.length + m = r.toNat ∧ T.oks ts = true ∧ T.lvs ts ≤ 6 ∧ (∀ t ∈ ts, t.sz ≤ 30) ∧ Deck T0 (n + m * (cost 5 + 1)) S) ?_ ?_ _ _ _ _ ⟨[], rfl, by simp, rfl, Nat.zero_le _, by simp, hd3.le (by omega)⟩
    · rintro j m acc S ⟨ts, rfl, e1, e2, e3, e4, hd⟩
      have e7 : (m + 1) * (cost 5 + 1) = m * (cost 5 + 1) + (cost 5 + 1) := Nat.succ_mul _ _
      refine ⟨_, rfl, ?_⟩
      have hd : Deck T0 (n + m * (cost 5 + 1) + cost 5 + 1) S := hd.le (by omega)
      have hl : (ts.map T.d).length < sizeLine := by rw [List.length_map]; omega
      repeat' walk_at "rf"
      rename_i x S4 hx hd4
      obtain ⟨v, rfl, v1, v2⟩ : ∃ v : Int, x = .int v ∧ 1 ≤ v ∧ v ≤ 30 := by
        simp only [List.mem_cons, List.not_mem_nil, or_false] at hx
        rcases hx with rfl | rfl | rfl
        all_goals exact ⟨_, rfl, by omega, by omega⟩
      repeat' walk_at "rf"
      refine w_look 40 5 v 5 (n := n + m * (cost 5 + 1)) (by omega) (by omega) (by omega) (by omega) (by omega) (by omega) hd4 fun t S3 a1 a2 a3 a4 => ?_
      repeat' walk_at "rf"
      refine ⟨hl, ts ++ [t], by rw [List.map_append]; rfl, by rw [List.length_append, List.length_singleton]; omega, oks_app3 e2 a1, lvs_app3 e3 (by omega), fun u hu => ?_, a4⟩
      rcases List.mem_append.mp hu with hu | hu
      · exact e4 u hu
      · rw [List.mem_singleton.mp hu]; omega
    rintro j S4 acc ⟨ts, rfl, e1, e2, e3, e4, hd4⟩
    repeat' walk_at "rf"
    exact k2 ts S4 e2 (by omega) e3 e4 (hd4.le (by omega))

end Rf

set_option Elab.async false
set_option linter.all false
set_option maxRecDepth 100000
set_option maxHeartbeats 0
namespace Rf
open PySem PySem.Spec PyProof.Rows L2 TL Rf
open Lw
/-! spoilt looks -/
abbrev Node (kd : D) (ds : List D) : D := .tup [kd, .tup ds]
/-- what goes ahead of the place m is right -/
inductive Pre : Bool → D → List Nat → Prop
  | nil {b : Bool} {d : D} : Pre b d []
  | cons {b : Bool} {kd e : D} {ds : List D} {i : Nat} {m : List Nat} {ts : List T} (hk : kd = sTuple ∨ kd = sRow ∧ b = false) (hi : ds[i]? = some e) (ht : ds.take i = ts.map T.d) (ho : T.oks ts = true) (hl : T.lvs ts ≤ 20) (hz : ds.length ≤ 1000) (h : Pre true e m) : Pre b (Node kd ds) (i :: m)
def putD : D → List Nat → D → D
  | _, [], x => x
  | .tup [kd, .tup ds], i :: p, x => match ds[i]? with
    | some e => .tup [kd, .tup (ds.take i ++ [putD e p x] ++ ds.drop (i + 1))]
    | none => .non
  | d, _, _ => d
abbrev iN (p : List Nat) : List Int := p.map fun (n : Nat) => (n : Int)
theorem putD_node {kd e x : D} {ds : List D} {i : Nat} {p : List Nat} (h : ds[i]? = some e) : putD (Node kd ds) (i :: p) x = Node kd (ds.take i ++ [putD e p x] ++ ds.drop (i + 1)) := by
  rw [putD]
  simp only [h]
theorem mid_get {α : Type} {ds : List α} {i : Nat} {e y : α} (h : ds[i]? = some e) : (ds.take i ++ [y] ++ ds.drop (i + 1))[i]? = some y ∧ (ds.take i ++ [y] ++ ds.drop (i + 1)).take i = ds.take i ∧ ∀ j, j < i → (ds.take i ++ [y] ++ ds.drop (i + 1))[j]? = ds[j]? ∧ (ds.take i ++ [y] ++ ds.drop (i + 1)).take j = ds.take j := by
  have hi : i < ds.length := (List.getElem?_eq_some_iff.mp h).1
  have hl : (ds.take i).length = i := by rw [List.length_take]; omega
  rw [List.append_assoc]
  refine ⟨?_, ?_, fun j hj => ⟨?_, ?_⟩⟩
  · rw [List.getElem?_append_right (by omega), hl]
    simp
  · rw [List.take_append_of_le_length (by omega), List.take_take, Nat.min_self]
  · rw [List.getElem?_append_left (by omega), List.getElem?_take]
    rw [if_pos hj]
  · rw [List.take_append_of_le_length (by omega), List.take_take, Nat.min_eq_left (by omega)]
theorem mid_len {α : Type} {ds : List α} {i : Nat} {e y : α} (h : ds[i]? = some e) : (ds.take i ++ [y] ++ ds.drop (i + 1)).length = ds.length := by
  have hi : i < ds.length := (List.getElem?_eq_some_iff.mp h).1
  simp only [List.length_append, List.length_take, List.length_drop, List.length_cons, List.length_nil]
  omega
/-- a change behind the place keeps what goes ahead of it -/
theorem put_pre {x : D} : ∀ {m : List Nat} {b : Bool} {d : D} {q : List Nat}, Pre b d m → Pre b d q → lexL (iN m) (iN q) = true → Pre b (putD d q x) m
  | [], _, _, _, _, _, _ => .nil
  | i :: m, b, d, [], _, _, h => by cases h
  | i :: m, b, d, j :: q, h1, h2, h => by
    cases h1 with
    | @cons _ kd e ds _ _ ts hk hi ht ho hl hz h1 =>
    cases h2 with
    | @cons _ _ e' _ _ _ ts' hk' hi' ht' ho' hl' hz' h2 =>
      rw [putD_node hi']
      rw [show iN (i :: m) = (i : Int) :: iN m from rfl, show iN (j :: q) = (j : Int) :: iN q from rfl, lexL] at h
      obtain ⟨g1, g2, g3⟩ := mid_get (y := putD e' q x) hi'
      have hzz := mid_len (y := putD e' q x) hi'
      by_cases e0 : (i : Int) = j
      · have e0 : i = j := by omega
        subst e0
        rw [if_pos rfl] at h
        have : e' = e := Option.some.inj (hi'.symm.trans hi)
        subst this
        exact .cons hk g1 (g2.trans ht) ho hl (by omega) (put_pre h1 h2 h)
      · rw [if_neg e0] at h
        have h := of_decide_eq_true h
        obtain ⟨g4, g5⟩ := g3 i (by omega)
        exact .cons hk (g4.trans hi) (g5.trans ht) ho hl (by omega) h1
/-! paths -/
mutual
def T.paths : T → List (List Nat)
  | .tup xs => [] :: T.pathsL 0 xs
  | .odd => [[]]
  | .num _ => [[]]
  | .word _ => [[]]
def T.pathsL : Nat → List T → List (List Nat)
  | _, [] => []
  | i, t :: ts => (t.paths.map fun p => i :: p) ++ T.pathsL (i + 1) ts
end
mutual
theorem T.paths_len : ∀ t : T, (t.paths.length : Int) = t.sz
  | .odd => by rw [T.paths, T.sz]; rfl
  | .num _ => by rw [T.paths, T.sz]; rfl
  | .word _ => by rw [T.paths, T.sz]; rfl
  | .tup xs => by rw [T.paths, T.sz, List.length_cons]; have := T.pathsL_len 0 xs; omega
theorem T.pathsL_len : ∀ (i : Nat) (ts : List T), ((T.pathsL i ts).length : Int) = T.szs ts
  | _, [] => by rw [T.pathsL, T.szs]; rfl
  | i, t :: ts => by rw [T.pathsL, T.szs, List.length_append, List.length_map]; have := T.paths_len t; have := T.pathsL_len (i + 1) ts; omega
end
theorem lvs_take : ∀ {ts : List T} {n m : Nat}, T.lvs ts ≤ m → T.lvs (ts.take n) ≤ m
  | [], n, m, h => by rw [List.take_nil]; exact h
  | t :: ts, 0, m, h => by rw [List.take_zero, T.lvs]; omega
  | t :: ts, n + 1, m, h => by
    rw [T.lvs] at h
    rw [List.take_succ_cons, T.lvs]
    have := lvs_take (ts := ts) (n := n) (m := m) (by omega)
    omega
theorem oks_take : ∀ {ts : List T} {n : Nat}, T.oks ts = true → T.oks (ts.take n) = true
  | [], n, h => by rw [List.take_nil]; exact h
  | t :: ts, 0, h => by rw [List.take_zero]; rfl
  | t :: ts, n + 1, h => by
    rw [T.oks, Bool.and_eq_true] at h
    rw [List.take_succ_cons, T.oks, h.1, oks_take h.2]; rfl
mutual
theorem T.pre : ∀ (t : T) (p : List Nat), t.ok = true → t.lv ≤ 20 → p ∈ t.paths → ∀ b, Pre b t.d p
  | .odd, p, _, _, h, b => by rw [T.paths, List.mem_singleton] at h; subst h; exact .nil
  | .num _, p, _, _, h, b => by rw [T.paths, List.mem_singleton] at h; subst h; exact .nil
  | .word _, p, _, _, h, b => by rw [T.paths, List.mem_singleton] at h; subst h; exact .nil
  | .tup xs, p, ho, hl, h, b => by
    rw [T.paths, List.mem_cons] at h
    rcases h with rfl | h
    · exact .nil
    · rw [T.ok, Bool.and_eq_true] at ho
      rw [T.lv] at hl
      rw [T.d, T.ds_map]
      rw [decide_eq_true_iff] at ho
      exact T.preL xs xs 0 p (by simp) ho.1 ho.2 (by omega) h b sTuple (.inl rfl)
theorem T.preL : ∀ (ts xs : List T) (i : Nat) (p : List Nat), xs.drop i = ts → xs.length ≤ 1000 → T.oks xs = true → T.lvs xs ≤ 20 → p ∈ T.pathsL i ts → ∀ (b : Bool) (kd : D), kd = sTuple ∨ kd = sRow ∧ b = false → Pre b (Node kd (xs.map T.d)) p
  | [], _, _, _, _, _, _, _, h, _, _, _ => by rw [T.pathsL] at h; cases h
  | t :: ts, xs, i, p, hd, hz, ho, hl, h, b, kd, hk => by
    rw [T.pathsL, List.mem_append] at h
    have hg : xs[i]? = some t := by
      have := congrArg (fun l => l[0]?) hd
      simpa using this
    have hm : t ∈ xs := List.mem_of_getElem? hg
    have hlt := T.lvs_mem hm
    rcases h with h | h
    · obtain ⟨q, hq, rfl⟩ := List.mem_map.mp h
      exact .cons (ts := xs.take i) hk (by rw [List.getElem?_map, hg]; rfl) (by rw [List.map_take]) (oks_take ho) (lvs_take hl) (by rw [List.length_map]; exact hz) (T.pre t q (T.oks_mem ho hm) (by omega) hq true)
    · exact T.preL ts xs (i + 1) p (by rw [← List.drop_drop, hd]; rfl) hz ho hl h b kd hk
end
/-- a look: a thing, or a row -/
inductive Lx where
  | one (t : T) | row (ts : List T)
def Lx.d : Lx → D
  | .one t => t.d
  | .row ts => .tup [sRow, .tup (ts.map T.d)]
def Lx.Ok : Lx → Prop
  | .one t => t.ok = true ∧ t.lv ≤ 10 ∧ t.sz ≤ 20000
  | .row ts => T.oks ts = true ∧ T.lvs ts ≤ 10 ∧ T.szs ts ≤ 20000 ∧ ts.length ≤ 1000
def Lx.paths : Lx → List (List Nat)
  | .one t => t.paths
  | .row ts => [] :: T.pathsL 0 ts
theorem Lx.pre {l : Lx} (h : l.Ok) {p : List Nat} (hp : p ∈ l.paths) : Pre false l.d p := by
  cases l with
  | one t => exact T.pre t p h.1 (by have := h.2.1; omega) hp false
  | row ts =>
    obtain ⟨h1, h2, h3, h4⟩ := h
    have hp : p ∈ [] :: T.pathsL 0 ts := hp
    rcases List.mem_cons.mp hp with rfl | hp
    · exact .nil
    · exact T.preL ts ts 0 p (by simp) h4 h1 (by omega) hp false sRow (.inr ⟨rfl, rfl⟩)

end Rf

set_option Elab.async false
set_option linter.all false
set_option maxRecDepth 100000
set_option maxHeartbeats 0
namespace Rf
open PySem PySem.Spec PyProof.Rows L2 TL Rf
open Lw
local macro_rules | `(tactic| walk_at "rf") => `(tactic| first
  | ((with_reducible apply w_isword); (· exact Nat.le_of_ble_eq_true rfl))
  | (with_reducible refine Wp.imp ?_)
  | (with_reducible refine Ws.imp ?_)
  | ((with_reducible apply w_draw); (· assumption); (· first | decide | omega); (· first | decide | assumption | exact Nat.lt_of_lt_of_le (lgi (k := 64) (by omega) (by decide)) (by decide)); intro r S' h0 h1 hd)
  | ((with_reducible apply w_one); (· assumption); (· intro h; cases h); (· exact Nat.le_of_ble_eq_true rfl); intro x S' hx hd)
  | ((with_reducible apply w_oneS); (· assumption); (· decide); (· decide); intro x S' hx hd)
  | ((with_reducible apply w_oneT); (· assumption); (· intro h; cases h); (· exact Nat.le_of_ble_eq_true rfl); intro x S' hx hd)
  | ((with_reducible apply f_cons); (· exact rfl))
  | ((with_reducible apply f_nil); (· exact rfl))
  | ((with_reducible apply l_cons); (· exact rfl))
  | ((with_reducible apply l_nil); (· exact rfl))
  | ((with_reducible apply g_len); (· exact rfl); (· first | assumption | omega | (simp only [List.length_append, List.length_cons, List.length_nil]; omega)))
  | ((with_reducible apply g_rng1); (· exact rfl); (· constructor <;> omega))
  | ((with_reducible apply g_rng2); (· exact rfl); (· refine ⟨?_, ?_⟩ <;> constructor <;> omega))
  | (with_reducible refine g_op ?_)
  | ((with_reducible refine g_og ?_ ?_); (· first | assumption | decide | omega | (simp only [List.length_append, List.length_cons, List.length_nil]; omega)))
  | ((with_reducible apply Exists.intro)
     (fail_if_success (with_reducible refine g_og ?_ ?_))
     (repeat (with_reducible apply Exists.intro))
     refine And.intro rfl ?_)
  | (with_reducible refine g_ift ?_)
  | (with_reducible refine g_iff ?_)
  | ((with_reducible refine g_ifd (fun ht => ?_) (fun ht => ?_)) <;> first | (exfalso; omega) | skip)
  | ((with_reducible apply r_isT); (· first | exact rfl | assumption))
  | ((with_reducible apply r_isF); (· first | exact rfl | assumption))
  | ((with_reducible refine r_dec (fun ht => ?_) (fun ht => ?_)) <;> first | (exfalso; omega) | skip)
  | ((with_reducible refine r_ndec (fun ht => ?_) (fun ht => ?_)) <;> first | (exfalso; omega) | skip)
  | ((with_reducible refine And.intro ?_ ?_); exact rfl)
  | ((with_reducible refine And.intro ?_ ?_); exact Nat.le_of_ble_eq_true rfl)
  | (with_reducible exact rfl)
  | (with_reducible apply u__law_signs)
  | (with_reducible apply u_is_number)
  | (with_reducible apply u_has_signs)
  | (with_reducible apply u_own_error)
  | (with_reducible apply u__law_same)
  | (with_reducible apply u__law_signs)
  | (with_reducible apply u_is_number)
  | (with_reducible apply u_has_signs)
  | (with_reducible apply u_own_error)
  | (with_reducible apply u__law_same))
theorem w_wrong {T0 S : Sto} {n : Nat} {P : D → Sto → Prop} (b : Bool) (hd : Deck T0 (n + 2) S)
    (k : ∀ (x : D) (z : List Nat) (S' : Sto), (∀ S, c_own_error [x, .bl (!b)] S = .ok (.str z) S) → Deck T0 n S' → P (.lst [x, .str z]) S') : wp (c__law_wrong [.obj 1, .bl b] S) P := by
  refine u__law_wrong ?_
  have hd : Deck T0 (n + 1 + 1) S := hd
  cases b
  all_goals
    repeat' walk_at "rf"
  all_goals
    rename_i x S2 hx hd2
    simp only [List.cons_append, List.nil_append, List.mem_cons, List.not_mem_nil, or_false] at hx
    rcases hx with rfl | rfl | rfl | rfl | rfl | rfl | rfl | rfl | rfl | rfl | rfl
  all_goals
    refine k _ _ _ (fun S => ok_of ?_) (Deck.le (by assumption) (by omega))
    repeat' walk_at "rf"
  all_goals
    refine u_is_word ?_
    repeat' walk_at "rf"

end Rf

set_option Elab.async false
set_option linter.all false
set_option maxRecDepth 100000
set_option maxHeartbeats 0
namespace Rf
open PySem PySem.Spec PyProof.Rows L2 TL Rf
open Lw
theorem ex_hyp {e : Option D} {z : D} {Q : D → Prop} (h : e = some z) (k : Q z) : ∃ w, e = some w ∧ Q w := ⟨z, h, k⟩
local macro_rules | `(tactic| walk_at "rf") => `(tactic| first
  | ((with_reducible apply ex_hyp); (· with_reducible assumption))
  | ((with_reducible apply wp.eq); (· with_reducible assumption))
  | (with_reducible refine Wp.imp ?_)
  | (with_reducible refine Ws.imp ?_)
  | ((with_reducible apply w_draw); (· assumption); (· first | decide | omega); (· first | decide | assumption | exact Nat.lt_of_lt_of_le (lgi (k := 64) (by omega) (by decide)) (by decide)); intro r S' h0 h1 hd)
  | ((with_reducible apply w_one); (· assumption); (· intro h; cases h); (· exact Nat.le_of_ble_eq_true rfl); intro x S' hx hd)
  | ((with_reducible apply w_oneS); (· assumption); (· decide); (· decide); intro x S' hx hd)
  | ((with_reducible apply w_oneT); (· assumption); (· intro h; cases h); (· exact Nat.le_of_ble_eq_true rfl); intro x S' hx hd)
  | ((with_reducible apply f_cons); (· exact rfl))
  | ((with_reducible apply f_nil); (· exact rfl))
  | ((with_reducible apply l_cons); (· exact rfl))
  | ((with_reducible apply l_nil); (· exact rfl))
  | ((with_reducible apply g_len); (· exact rfl); (· first | assumption | omega | (simp only [List.length_append, List.length_cons, List.length_nil]; omega)))
  | ((with_reducible apply g_rng1); (· exact rfl); (· constructor <;> omega))
  | ((with_reducible apply g_rng2); (· exact rfl); (· refine ⟨?_, ?_⟩ <;> constructor <;> omega))
  | (with_reducible refine g_op ?_)
  | ((with_reducible refine g_og ?_ ?_); (· first | assumption | decide | omega | (simp only [List.length_append, List.length_cons, List.length_nil]; omega)))
  | ((with_reducible apply Exists.intro)
     (fail_if_success (with_reducible refine g_og ?_ ?_))
     (repeat (with_reducible apply Exists.intro))
     refine And.intro rfl ?_)
  | (with_reducible refine g_ift ?_)
  | (with_reducible refine g_iff ?_)
  | ((with_reducible refine g_ifd (fun ht => ?_) (fun ht => ?_)) <;> first | (exfalso; omega) | skip)
  | ((with_reducible apply r_isT); (· first | exact rfl | assumption))
  | ((with_reducible apply r_isF); (· first | exact rfl | assumption))
  | ((with_reducible refine r_dec (fun ht => ?_) (fun ht => ?_)) <;> first | (exfalso; omega) | skip)
  | ((with_reducible refine r_ndec (fun ht => ?_) (fun ht => ?_)) <;> first | (exfalso; omega) | skip)
  | ((with_reducible refine And.intro ?_ ?_); exact rfl)
  | ((with_reducible refine And.intro ?_ ?_); exact Nat.le_of_ble_eq_true rfl)
  | (with_reducible exact rfl)
  | (with_reducible apply u__law_signs)
  | (with_reducible apply u_is_number)
  | (with_reducible apply u_has_signs)
  | (with_reducible apply u__law_same)
  | (with_reducible apply u__law_signs)
  | (with_reducible apply u_is_number)
  | (with_reducible apply u_has_signs)
  | (with_reducible apply u__law_same))
theorem own_node (kd : D) (ds : List D) (b : Bool) (S : Sto) (h : kd = sTuple ∨ kd = sRow ∧ b = false) : c_own_error [Node kd ds, .bl b] S = .ok .non S := ok_of (by
  refine u_own_error ?_
  rcases h with rfl | ⟨rfl, rfl⟩
  all_goals repeat' walk_at "rf")
theorem items_node (kd : D) (ds : List D) (S : Sto) (h : kd = sTuple ∨ kd = sRow) : c_items_of [Node kd ds] S = .ok (.tup ds) S := ok_of (by
  refine u_items_of ?_
  rcases h with rfl | rfl
  all_goals repeat' walk_at "rf")
abbrev dI (ns : List Int) : D := .tup (ns.map .int)
/-- the first wrong part is told -/
theorem fe_bad {x : D} {z : List Nat} : ∀ (m : List Nat) (f : Nat) (d : D) (ps : List Int) (S : Sto), Pre (!decide (ps = [])) d m → m.length + 25 < f → ps.length + m.length ≤ 1000 →
    (∀ S, c_own_error [x, .bl (!decide (ps ++ iN m = []))] S = .ok (.str z) S) → c_first_error f [putD d m x, dI ps] S = .ok (.tup [dI (ps ++ iN m), .str z]) S
  | [], f, d, ps, S, _, hf, hl, hx => by
    obtain ⟨f, rfl⟩ : ∃ g, f = g + 1 := ⟨f - 1, by omega⟩
    rw [putD]
    rw [show iN [] = [] from rfl, List.append_nil] at hx ⊢
    have hx := hx S
    refine ok_of (u_first_error ?_)
    repeat' walk_at "rf"
    refine ⟨_, cNe_ints ps [], ?_⟩
    repeat' walk_at "rf"
  | i :: m, f, d, ps, S, hp, hf, hl, hx => by
    obtain ⟨f, rfl⟩ : ∃ g, f = g + 1 := ⟨f - 1, by omega⟩
    cases hp with
    | @cons _ kd e ds _ _ ts hk hi ht ho hlv hzz h1 =>
    rw [putD_node hi]
    obtain ⟨g1, g2, g3⟩ := mid_get (y := putD e m x) hi
    obtain ⟨Y, hY⟩ : ∃ Y, Y = ds.take i ++ [putD e m x] ++ ds.drop (i + 1) := ⟨_, rfl⟩
    rw [← hY] at g1 g2 ⊢
    have o1 := own_node kd Y (!decide (ps = [])) S hk
    have o2 := items_node kd Y S (hk.imp id And.left)
    have big : 100000 ≤ sizeLine := by decide
    refine ok_of (u_first_error ?_)
    repeat' walk_at "rf"
    refine ⟨_, cNe_ints ps [], ?_⟩
    repeat' walk_at "rf"
    have eY : Y = Y.map fun d => d := (List.map_id' Y).symm
    show wps (forL none _ _ _ (enF 0 Y) _ _) _
    refine (fun H => H Y eY : (∀ Z, Z = Y.map (fun d => d) → wps (forL none _ _ _ (enF 0 Z) _ _) _) → wps (forL none _ _ _ (enF 0 Y) _ _) _) ?_
    intro Z hZ
    subst hZ
    refine wps_en (f := fun d => d) (fun j as L S' => S' = S ∧ (∃ a b c, L = [.v (Node kd Y), .v (dI ps), .v .non, a, b, c]) ∧ ∃ k : Nat, j = (k : Int) ∧ as = Y.drop k ∧ k ≤ i) ?_ ?_ _ _ _ _ ⟨rfl, ⟨_, _, _, rfl⟩, 0, rfl, rfl, Nat.zero_le _⟩
    · rintro j u as L S' ⟨rfl, ⟨a, b, c, rfl⟩, k, rfl, e1, e2⟩
      have hu : Y[k]? = some u := by
        have := congrArg (fun l => l[0]?) e1
        simpa using this.symm
      have e3 : as = Y.drop (k + 1) := by
        rw [← List.drop_drop, ← e1]; rfl
      have hz2 : (ps.map D.int).length + [D.int (k : Int)].length ≤ sizeLine := by
        rw [List.length_cons] at hl
        rw [List.length_map, List.length_singleton]; omega
      have e4 : ps.map D.int ++ [D.int (k : Int)] = (ps ++ [(k : Int)]).map .int := by rw [List.map_append]; rfl
      rw [List.length_cons] at hl hf
      refine ⟨_, rfl, ?_⟩
      by_cases hk' : k < i
      · have : ∃ t ∈ ts, u = t.d := by
          have q := congrArg (fun l => l[k]?) (g2.trans ht)
          simp only [List.getElem?_take, List.getElem?_map] at q
          rw [if_pos hk', hu] at q
          cases z : ts[k]? with
          | none => rw [z] at q; cases q
          | some t => rw [z] at q; exact ⟨t, List.mem_of_getElem? z, Option.some.inj q⟩
        obtain ⟨t, ht1, rfl⟩ := this
        have hlt := T.lvs_mem ht1
        have f1 := fe_ok f t (ps ++ [(k : Int)]) S' (T.oks_mem ho ht1) (by omega) (by rw [List.length_append, List.length_singleton]; omega)
        rw [← e4] at f1
        repeat' walk_at "rf"
        exact ⟨⟨_, _, _, rfl⟩, k + 1, rfl, e3, hk'⟩
      · have : k = i := by omega
        subst this
        have hu2 : u = putD e m x := Option.some.inj (hu.symm.trans g1)
        subst hu2
        have en : (!decide (ps ++ [(k : Int)] = [])) = true := by rw [decide_eq_false (by simp)]; rfl
        have ea : ps ++ iN (k :: m) = ps ++ [(k : Int)] ++ iN m := by rw [List.append_assoc]; rfl
        rw [ea] at hx ⊢
        have f1 := fe_bad m f e (ps ++ [(k : Int)]) S' (by rw [en]; exact h1) (by omega) (by rw [List.length_append, List.length_singleton]; omega) hx
        rw [show dI (ps ++ [(k : Int)]) = .tup (ps.map D.int ++ [D.int (k : Int)]) by rw [e4]] at f1
        repeat' walk_at "rf"
    · rintro j L S' ⟨rfl, ⟨a, b, c, rfl⟩, k, rfl, e1, e2⟩
      exfalso
      have := (List.getElem?_eq_some_iff.mp g1).1
      have e1 := congrArg List.length e1
      rw [List.length_drop, List.length_nil] at e1
      omega

end Rf

set_option Elab.async false
set_option linter.all false
set_option maxRecDepth 100000
set_option maxHeartbeats 0
namespace Rf
open PySem PySem.Spec PyProof.Rows L2 TL Rf
open Lw
theorem cutT_from {α : Type} {x : List α} {a : Nat} (h : a ≤ x.length) : cutD x (some (a : Int)) none = x.drop a := by
  unfold cutD
  rw [show HT.sIx x.length x.length none = x.length from rfl, HT.sIx_nat, Nat.min_eq_left h]
  rw [List.take_of_length_le (by rw [List.length_drop]; exact Nat.le_refl _)]
theorem cutT_at {α : Type} {x : List α} {a : Nat} (h : a ≤ x.length) : cutD x none (some (a : Int)) = x.take a := by
  unfold cutD
  rw [show HT.sIx x.length 0 none = 0 from rfl, HT.sIx_nat, Nat.min_eq_left h]
  simp
local macro_rules | `(tactic| walk_at "rf") => `(tactic| first
  | ((with_reducible apply ex_hyp); (· with_reducible assumption))
  | ((with_reducible apply wp.eq); (· with_reducible assumption))
  | (with_reducible refine Wp.imp ?_)
  | (with_reducible refine Ws.imp ?_)
  | ((with_reducible apply w_draw); (· assumption); (· first | decide | omega); (· first | decide | assumption | exact Nat.lt_of_lt_of_le (lgi (k := 64) (by omega) (by decide)) (by decide)); intro r S' h0 h1 hd)
  | ((with_reducible apply w_one); (· assumption); (· intro h; cases h); (· exact Nat.le_of_ble_eq_true rfl); intro x S' hx hd)
  | ((with_reducible apply w_oneS); (· assumption); (· decide); (· decide); intro x S' hx hd)
  | ((with_reducible apply w_oneT); (· assumption); (· intro h; cases h); (· exact Nat.le_of_ble_eq_true rfl); intro x S' hx hd)
  | ((with_reducible apply f_cons); (· exact rfl))
  | ((with_reducible apply f_nil); (· exact rfl))
  | ((with_reducible apply l_cons); (· exact rfl))
  | ((with_reducible apply l_nil); (· exact rfl))
  | ((with_reducible apply g_len); (· exact rfl); (· first | assumption | omega | (simp only [List.length_append, List.length_cons, List.length_nil]; omega)))
  | ((with_reducible apply g_rng1); (· exact rfl); (· constructor <;> omega))
  | ((with_reducible apply g_rng2); (· exact rfl); (· refine ⟨?_, ?_⟩ <;> constructor <;> omega))
  | (with_reducible refine g_op ?_)
  | ((with_reducible refine g_og ?_ ?_); (· first | assumption | decide | omega | (simp only [List.length_append, List.length_cons, List.length_nil]; omega)))
  | ((with_reducible apply Exists.intro)
     (fail_if_success (with_reducible refine g_og ?_ ?_))
     (repeat (with_reducible apply Exists.intro))
     refine And.intro rfl ?_)
  | (with_reducible refine g_ift ?_)
  | (with_reducible refine g_iff ?_)
  | ((with_reducible refine g_ifd (fun ht => ?_) (fun ht => ?_)) <;> first | (exfalso; omega) | skip)
  | ((with_reducible apply r_isT); (· first | exact rfl | assumption))
  | ((with_reducible apply r_isF); (· first | exact rfl | assumption))
  | ((with_reducible refine r_dec (fun ht => ?_) (fun ht => ?_)) <;> first | (exfalso; omega) | skip)
  | ((with_reducible refine r_ndec (fun ht => ?_) (fun ht => ?_)) <;> first | (exfalso; omega) | skip)
  | ((with_reducible refine And.intro ?_ ?_); exact rfl)
  | ((with_reducible refine And.intro ?_ ?_); exact Nat.le_of_ble_eq_true rfl)
  | (with_reducible exact rfl)
  | (with_reducible apply u__law_signs)
  | (with_reducible apply u_is_number)
  | (with_reducible apply u_has_signs)
  | (with_reducible apply u__law_same)
  | (with_reducible apply u__law_signs)
  | (with_reducible apply u_is_number)
  | (with_reducible apply u_has_signs)
  | (with_reducible apply u__law_same))
theorem put_M {x : D} : ∀ (p : List Nat) (f : Nat) (b : Bool) (d : D) (S : Sto), Pre b d p → p.length < f → c__law_put f [d, dI (iN p), x] S = .ok (putD d p x) S
  | [], f, b, d, S, _, hf => by
    obtain ⟨f, rfl⟩ : ∃ g, f = g + 1 := ⟨f - 1, by omega⟩
    rw [putD]
    have e0 : cEq (dI (iN [])) (.tup []) = some (.bl true) := cEq_ints [] []
    refine ok_of (u__law_put ?_)
    repeat' walk_at "rf"
  | i :: p, f, b, d, S, hp, hf => by
    obtain ⟨f, rfl⟩ : ∃ g, f = g + 1 := ⟨f - 1, by omega⟩
    rw [List.length_cons] at hf
    cases hp with
    | @cons _ kd e ds _ _ ts hk hi ht ho hlv hz h1 =>
    have hil := (List.getElem?_eq_some_iff.mp hi).1
    have big : 100000 ≤ sizeLine := by decide
    rw [putD_node hi]
    have e0 : cEq (dI (iN (i :: p))) (.tup []) = some (.bl false) := cEq_ints (iN (i :: p)) []
    have e1 : oIx (.tup ds) (.int (i : Int)) = some e := atI_some hi
    have e2 : oSl (dI (iN (i :: p))) (some 1) none = some (dI (iN p)) := congrArg (fun z => some (D.tup z)) (cutT_from (x := (iN (i :: p)).map D.int) (a := 1) (by simp))
    have e3 : oSl (.tup ds) none (some (i : Int)) = some (.tup (ds.take i)) := congrArg (fun z => some (D.tup z)) (cutT_at (by omega))
    have e4 : oSl (.tup ds) (some ((i : Int) + 1)) none = some (.tup (ds.drop (i + 1))) := congrArg (fun z => some (D.tup z)) (cutT_from (x := ds) (a := i + 1) (by omega))
    have l1 : (ds.take i).length ≤ 1000 := by rw [List.length_take]; omega
    have l2 : (ds.drop (i + 1)).length ≤ 1000 := by rw [List.length_drop]; omega
    have e8 := put_M (x := x) p f true e S h1 (by omega)
    have hk2 : oIx (Node kd ds) (.int 0) = some kd := rfl
    have e5 : oIx (dI (iN (i :: p))) (.int 0) = some (.int (i : Int)) := atI_some (xs := (iN (i :: p)).map D.int) (i := 0) rfl
    refine ok_of (u__law_put ?_)
    repeat' walk_at "rf"
theorem sz_mem1 : ∀ {ts : List T} {t : T}, t ∈ ts → t.sz ≤ T.szs ts
  | [], _, h => by cases h
  | u :: ts, t, h => by
    rw [T.szs]
    have := T.sz_pos.T.szs_len ts
    have := u.sz_pos
    rcases List.mem_cons.mp h with rfl | h
    · omega
    · have := sz_mem1 h; omega
theorem pathsL_M (f : Nat) (ih : ∀ (t : T) (q : List Nat) (S : Sto), t.ok = true → t.lv < f → t.sz ≤ 20000 → q.length + f ≤ 800 → c__law_paths f [t.d, dI (iN q)] S = .ok (.lst (t.paths.map fun p => dI (iN (q ++ p)))) S)
    (kd : D) (hk : kd = sTuple ∨ kd = sRow) (ts : List T) (q : List Nat) (S : Sto) (ho : T.oks ts = true) (hl : T.lvs ts < f) (hs : T.szs ts ≤ 20000) (hz : ts.length ≤ 1000) (hq : q.length + (f + 1) ≤ 800) :
    c__law_paths (f + 1) [Node kd (ts.map T.d), dI (iN q)] S = .ok (.lst (([] :: T.pathsL 0 ts).map fun p => dI (iN (q ++ p)))) S := by
  have big : 100000 ≤ sizeLine := by decide
  refine ok_of (u__law_paths ?_)
  rcases hk with rfl | rfl
  all_goals
    repeat' walk_at "rf"
    show wps (forL none _ _ _ (enF 0 (ts.map T.d)) _ _) _
  · exact (wps_en (f := T.d) (fun j as L S' => S' = S ∧ ∃ (k : Nat) (acc : List (List Nat)) (a b : LV), L = [.v (Node sTuple (ts.map T.d)), .v (dI (iN q)), .v (.lst (acc.map fun p => dI (iN (q ++ p)))), a, b] ∧ j = (k : Int) ∧ as = ts.drop k ∧ acc ++ T.pathsL k as = [] :: T.pathsL 0 ts) (by
      rintro j u as L S' ⟨rfl, k, acc, a, b, rfl, rfl, e1, e2⟩
      have hu : ts[k]? = some u := by
        have := congrArg (fun l => l[0]?) e1
        simpa using this.symm
      have hm : u ∈ ts := List.mem_of_getElem? hu
      have e3 : as = ts.drop (k + 1) := by rw [← List.drop_drop, ← e1]; rfl
      have hkl := (List.getElem?_eq_some_iff.mp hu).1
      have hlv := T.lvs_mem hm
      have hsz := sz_mem1 hm
      have f1 := ih u (q ++ [k]) S' (T.oks_mem ho hm) (by omega) (by omega) (by rw [List.length_append, List.length_singleton]; omega)
      have ei : dI (iN (q ++ [k])) = .tup ((iN q).map D.int ++ [D.int (k : Int)]) := by simp [iN]
      rw [ei] at f1
      have hz2 : ((iN q).map D.int).length + [D.int (k : Int)].length ≤ sizeLine := by simp; omega
      have hlen : acc.length + u.paths.length ≤ 20001 := by
        have q1 := congrArg List.length e2
        have q2 := T.pathsL_len 0 ts
        rw [T.pathsL] at q1
        simp only [List.length_append, List.length_map, List.length_cons] at q1
        omega
      have hz3 : (acc.map fun p => dI (iN (q ++ p))).length + (u.paths.map fun p => dI (iN (q ++ [k] ++ p))).length ≤ sizeLine := by rw [List.length_map, List.length_map]; omega
      refine ⟨_, rfl, ?_⟩
      repeat' walk_at "rf"
      refine ⟨k + 1, acc ++ u.paths.map (fun p => k :: p), .v (.int (k : Int)), .v u.d, ?_, rfl, e3, ?_⟩
      · rw [List.map_append, List.map_map]
        have : (fun p => dI (iN (q ++ [k] ++ p))) = (fun p => dI (iN (q ++ p))) ∘ fun p => k :: p := by
          funext p
          simp
        rw [this]
        rfl
      · rw [← e2, T.pathsL, List.append_assoc]) (by
      rintro j L S' ⟨rfl, k, acc, a, b, rfl, rfl, e1, e2⟩
      rw [T.pathsL, List.append_nil] at e2
      rw [← e2]
      repeat' walk_at "rf") _ _ _ _ ⟨rfl, 0, [[]], .un, .un, by simp, rfl, rfl, rfl⟩)
  · exact (wps_en (f := T.d) (fun j as L S' => S' = S ∧ ∃ (k : Nat) (acc : List (List Nat)) (a b : LV), L = [.v (Node sRow (ts.map T.d)), .v (dI (iN q)), .v (.lst (acc.map fun p => dI (iN (q ++ p)))), a, b] ∧ j = (k : Int) ∧ as = ts.drop k ∧ acc ++ T.pathsL k as = [] :: T.pathsL 0 ts) (by
      rintro j u as L S' ⟨rfl, k, acc, a, b, rfl, rfl, e1, e2⟩
      have hu : ts[k]? = some u := by
        have := congrArg (fun l => l[0]?) e1
        simpa using this.symm
      have hm : u ∈ ts := List.mem_of_getElem? hu
      have e3 : as = ts.drop (k + 1) := by rw [← List.drop_drop, ← e1]; rfl
      have hkl := (List.getElem?_eq_some_iff.mp hu).1
      have hlv := T.lvs_mem hm
      have hsz := sz_mem1 hm
      have f1 := ih u (q ++ [k]) S' (T.oks_mem ho hm) (by omega) (by omega) (by rw [List.length_append, List.length_singleton]; omega)
      have ei : dI (iN (q ++ [k])) = .tup ((iN q).map D.int ++ [D.int (k : Int)]) := by simp [iN]
      rw [ei] at f1
      have hz2 : ((iN q).map D.int).length + [D.int (k : Int)].length ≤ sizeLine := by simp; omega
      have hlen : acc.length + u.paths.length ≤ 20001 := by
        have q1 := congrArg List.length e2
        have q2 := T.pathsL_len 0 ts
        rw [T.pathsL] at q1
        simp only [List.length_append, List.length_map, List.length_cons] at q1
        omega
      have hz3 : (acc.map fun p => dI (iN (q ++ p))).length + (u.paths.map fun p => dI (iN (q ++ [k] ++ p))).length ≤ sizeLine := by rw [List.length_map, List.length_map]; omega
      refine ⟨_, rfl, ?_⟩
      repeat' walk_at "rf"
      refine ⟨k + 1, acc ++ u.paths.map (fun p => k :: p), .v (.int (k : Int)), .v u.d, ?_, rfl, e3, ?_⟩
      · rw [List.map_append, List.map_map]
        have : (fun p => dI (iN (q ++ [k] ++ p))) = (fun p => dI (iN (q ++ p))) ∘ fun p => k :: p := by
          funext p
          simp
        rw [this]
        rfl
      · rw [← e2, T.pathsL, List.append_assoc]) (by
      rintro j L S' ⟨rfl, k, acc, a, b, rfl, rfl, e1, e2⟩
      rw [T.pathsL, List.append_nil] at e2
      rw [← e2]
      repeat' walk_at "rf") _ _ _ _ ⟨rfl, 0, [[]], .un, .un, by simp, rfl, rfl, rfl⟩)
theorem paths_M : ∀ (f : Nat) (t : T) (q : List Nat) (S : Sto), t.ok = true → t.lv < f → t.sz ≤ 20000 → q.length + f ≤ 800 → c__law_paths f [t.d, dI (iN q)] S = .ok (.lst (t.paths.map fun p => dI (iN (q ++ p)))) S
  | 0, _, _, _, _, h, _, _ => by omega
  | f + 1, .odd, q, S, _, _, _, _ => by
    rw [T.paths]
    refine ok_of (u__law_paths ?_)
    repeat' walk_at "rf"
    all_goals exact ⟨by simp, rfl⟩
  | f + 1, .num i, q, S, _, _, _, _ => by
    rw [T.paths]
    refine ok_of (u__law_paths ?_)
    repeat' walk_at "rf"
    all_goals exact ⟨by simp, rfl⟩
  | f + 1, .word w, q, S, _, _, _, _ => by
    rw [T.paths]
    refine ok_of (u__law_paths ?_)
    repeat' walk_at "rf"
    all_goals exact ⟨by simp, rfl⟩
  | f + 1, .tup xs, q, S, ho, hl, hs, hq => by
    rw [T.ok, Bool.and_eq_true, decide_eq_true_iff] at ho
    rw [T.lv] at hl
    rw [T.sz] at hs
    rw [T.paths, T.d, T.ds_map]
    exact pathsL_M f (fun t q' S h1 h2 h3 h4 => paths_M f t q' S h1 h2 h3 (by omega)) sTuple (.inl rfl) xs q S ho.2 (by omega) (by omega) ho.1 (by omega)

end Rf

set_option Elab.async false
set_option linter.all false
set_option maxRecDepth 100000
set_option maxHeartbeats 0
namespace Rf
open PySem PySem.Spec PyProof.Rows L2 TL Rf
open Lw
/-! keys -/
theorem ksI_map (ns : List Int) : ksI (ns.map D.int) = some (ns.map Sum.inl) := by
  induction ns with
  | nil => rfl
  | cons n ns ih => rw [List.map_cons, ksI, ih]; rfl
theorem isI_map (ns : List Int) : isI (ns.map D.int) = some ns := by
  induction ns with
  | nil => rfl
  | cons n ns ih => rw [List.map_cons, isI, ih]; rfl
theorem iTs_map (l : List (List Int)) : iTs (l.map dTI) = some l := by
  induction l with
  | nil => rfl
  | cons n l ih =>
    rw [List.map_cons, iTs]
    rw [show iT (dTI n) = some n from isI_map n, ih]
abbrev kp (p : List Nat) : List Key := (iN p).map Sum.inl
theorem kp_D (p : List Nat) : (kp p).map kD = (iN p).map D.int := by
  rw [List.map_map]; rfl
theorem iN_inj : ∀ {p q : List Nat}, iN p = iN q → p = q
  | [], [], _ => rfl
  | [], _ :: _, h => by cases h
  | _ :: _, [], h => by cases h
  | a :: p, b :: q, h => by
    have h := List.cons.inj (show (a : Int) :: iN p = (b : Int) :: iN q from h)
    have e : a = b := by have := h.1; omega
    rw [e, iN_inj h.2]
theorem kp_inj {p q : List Nat} (h : kp p = kp q) : p = q := by
  refine iN_inj ?_
  have : ∀ a b : List Int, (a.map Sum.inl : List Key) = b.map Sum.inl → a = b := by
    intro a
    induction a with
    | nil => intro b h; cases b with | nil => rfl | cons => cases h
    | cons x a ih =>
      intro b h
      cases b with
      | nil => cases h
      | cons y b =>
        rw [List.map_cons, List.map_cons] at h
        have h := List.cons.inj h
        rw [Sum.inl.inj h.1, ih b h.2]
  exact this _ _ h
def GoodE (l : Lx) (e : List Key × D) : Prop := ∃ p ∈ l.paths, ∃ (x : D) (z : List Nat), e = (kp p, .lst [x, .str z]) ∧ ∀ S, c_own_error [x, .bl (!decide (iN p = []))] S = .ok (.str z) S
def GoodK (l : Lx) (kvs : Dct) : Prop := (∀ e ∈ kvs, GoodE l e) ∧ (kvs.map (·.1)).Nodup
theorem put_good {l : Lx} {kvs : Dct} {q : List Key} {d : D} (h : GoodK l kvs) (hd : GoodE l (q, d)) : GoodK l (dPut kvs q d) ∧ (dPut kvs q d).length ≤ kvs.length + 1 ∧ dPut kvs q d ≠ [] := by
  unfold dPut
  split
  · rename_i ha
    refine ⟨⟨fun e he => ?_, ?_⟩, by rw [List.length_map]; omega, fun z => ?_⟩
    · obtain ⟨kv, hkv, rfl⟩ := List.mem_map.mp he
      split
      · rename_i hq
        rw [hq]; exact hd
      · exact h.1 kv hkv
    · have : (kvs.map (fun kv => if kv.1 = q then (kv.1, d) else kv)).map (·.1) = kvs.map (·.1) := by
        rw [List.map_map]
        refine List.map_congr_left fun kv _ => ?_
        dsimp only [Function.comp]
        split <;> rfl
      rw [this]; exact h.2
    · rw [List.map_eq_nil_iff] at z
      rw [z] at ha; cases ha
  · rename_i ha
    refine ⟨⟨fun e he => ?_, ?_⟩, by rw [List.length_append]; exact Nat.le_refl _, by simp⟩
    · rcases List.mem_append.mp he with he | he
      · exact h.1 e he
      · rw [List.mem_singleton.mp he]; exact hd
    · rw [List.map_append, List.nodup_append]
      refine ⟨h.2, by simp, fun a ha' b hb e => ?_⟩
      have hb : b = q := by simpa using hb
      subst hb
      subst e
      obtain ⟨kv, hkv, e⟩ := List.mem_map.mp ha'
      exact ha (List.any_eq_true.mpr ⟨kv, hkv, decide_eq_true e⟩)
theorem get_in : ∀ {kvs : Dct} {q : List Key} {d : D}, (kvs.map (·.1)).Nodup → (q, d) ∈ kvs → dGet kvs q = some d
  | [], _, _, _, h => by cases h
  | kv :: kvs, q, d, hn, h => by
    rw [List.map_cons, List.nodup_cons] at hn
    unfold dGet
    rw [List.find?_cons]
    rcases List.mem_cons.mp h with e | h
    · subst e
      rw [decide_eq_true rfl]; rfl
    · have : ¬ kv.1 = q := fun e => hn.1 (List.mem_map.mpr ⟨(q, d), h, e.symm⟩)
      rw [decide_eq_false this]
      exact get_in hn.2 h
def intsK (ks : List Key) : List Int := ks.map fun k => match k with
  | .inl i => i
  | .inr _ => 0
theorem intsK_kp (p : List Nat) : intsK (kp p) = iN p := by
  unfold intsK
  rw [List.map_map]
  exact List.map_id _
abbrev KS (kvs : Dct) : List (List Int) := kvs.map fun e => intsK e.1
theorem keysD {l : Lx} {kvs : Dct} (h : GoodK l kvs) : kvs.map (fun kv => D.tup (kv.1.map kD)) = (KS kvs).map dTI := by
  rw [List.map_map]
  refine List.map_congr_left fun e he => ?_
  obtain ⟨p, _, x, z, rfl, _⟩ := h.1 e he
  show D.tup ((kp p).map kD) = dTI (intsK (kp p))
  rw [kp_D, intsK_kp]; rfl
theorem KS_nodup {l : Lx} {kvs : Dct} (h : GoodK l kvs) : (KS kvs).Nodup := by
  have e : ∀ a ∈ kvs, ∀ b ∈ kvs, intsK a.1 = intsK b.1 → a.1 = b.1 := fun a ha b hb e => by
    obtain ⟨p, _, x, z, rfl, _⟩ := h.1 a ha
    obtain ⟨q, _, x', z', rfl, _⟩ := h.1 b hb
    rw [intsK_kp, intsK_kp] at e
    rw [iN_inj e]
  have hn := h.2
  revert e hn
  clear h
  induction kvs with
  | nil => intro _ _; exact List.nodup_nil
  | cons a kvs ih =>
    intro e hn
    rw [List.map_cons, List.nodup_cons] at hn
    show (intsK a.1 :: KS kvs).Nodup
    rw [List.nodup_cons]
    refine ⟨fun hm => ?_, ih (fun x hx y hy => e x (List.mem_cons_of_mem _ hx) y (List.mem_cons_of_mem _ hy)) hn.2⟩
    obtain ⟨b, hb, eb⟩ := List.mem_map.mp hm
    exact hn.1 (List.mem_map.mpr ⟨b, hb, e b (List.mem_cons_of_mem _ hb) a List.mem_cons_self eb⟩)
/-- the keys, the greatest first -/
abbrev RK (kvs : Dct) : List (List Int) := (srtL (KS kvs)).reverse
theorem RK_mem {l : Lx} {kvs : Dct} (h : GoodK l kvs) {r : List Int} (hr : r ∈ RK kvs) : ∃ p ∈ l.paths, r = iN p ∧ ∃ (x : D) (z : List Nat), dGet kvs (kp p) = some (.lst [x, .str z]) ∧ ∀ S, c_own_error [x, .bl (!decide (iN p = []))] S = .ok (.str z) S := by
  rw [List.mem_reverse, (srtL_perm _).mem_iff] at hr
  obtain ⟨e, he, rfl⟩ := List.mem_map.mp hr
  obtain ⟨p, hp, x, z, rfl, ho⟩ := h.1 e he
  exact ⟨p, hp, intsK_kp p, x, z, get_in h.2 he, ho⟩
theorem RK_pw {l : Lx} {kvs : Dct} (h : GoodK l kvs) : (RK kvs).Pairwise fun a b => lexL b a = true := by
  rw [List.pairwise_reverse]
  have hn : (srtL (KS kvs)).Nodup := ((srtL_perm (KS kvs)).nodup_iff).mpr (KS_nodup h)
  refine ((srtL_pw (KS kvs)).and hn).imp fun {a b} z => ?_
  cases q : lexL a b with
  | true => rfl
  | false => exact absurd (lexL_tot q z.1) z.2
theorem pw_mid {α : Type} {R : α → α → Prop} {pre as : List α} {r : α} (h : (pre ++ r :: as).Pairwise R) : ∀ b ∈ as, R r b := by
  rw [List.pairwise_append] at h
  exact (List.pairwise_cons.mp h.2.1).1
theorem last_min {l : Lx} {kvs : Dct} (h : GoodK l kvs) {pre : List (List Int)} {r : List Int} (e : RK kvs = pre ++ [r]) {n : List Int} {m : List (List Int)} (hk : KS kvs = n :: m) : minL n m = r := by
  obtain ⟨h1, h2⟩ := minL_ok m n
  rw [← hk] at h1 h2
  have hr : r ∈ KS kvs := by
    have : r ∈ RK kvs := by rw [e]; simp
    rwa [List.mem_reverse, (srtL_perm _).mem_iff] at this
  have hm : minL n m ∈ RK kvs := by rw [List.mem_reverse, (srtL_perm _).mem_iff]; exact h1
  have q1 : lexL r (minL n m) = false := h2 r hr
  rw [e] at hm
  rcases List.mem_append.mp hm with hm | hm
  · have := RK_pw h
    rw [e, List.pairwise_append] at this
    rw [this.2.2 _ hm r (by simp)] at q1
    cases q1
  · simpa using hm
theorem T.paths_lv : ∀ (t : T) (p : List Nat), p ∈ t.paths → p.length ≤ t.lv
  | .odd, p, h => by rw [T.paths, List.mem_singleton] at h; subst h; exact Nat.zero_le _
  | .num _, p, h => by rw [T.paths, List.mem_singleton] at h; subst h; exact Nat.zero_le _
  | .word _, p, h => by rw [T.paths, List.mem_singleton] at h; subst h; exact Nat.zero_le _
  | .tup xs, p, h => by
    rw [T.paths, List.mem_cons] at h
    rcases h with rfl | h
    · exact Nat.zero_le _
    · rw [T.lv]; exact go xs 0 p h
where go : ∀ (ts : List T) (i : Nat) (p : List Nat), p ∈ T.pathsL i ts → p.length ≤ T.lvs ts + 1
  | [], _, _, h => by rw [T.pathsL] at h; cases h
  | t :: ts, i, p, h => by
    rw [T.pathsL, List.mem_append] at h
    rw [T.lvs]
    rcases h with h | h
    · obtain ⟨q, hq, rfl⟩ := List.mem_map.mp h
      have := T.paths_lv t q hq
      rw [List.length_cons]; omega
    · have := go ts (i + 1) p h; omega
theorem Lx.paths_lv {l : Lx} (h : l.Ok) {p : List Nat} (hp : p ∈ l.paths) : p.length ≤ 11 := by
  cases l with
  | one t => have := T.paths_lv t p hp; have := h.2.1; omega
  | row ts =>
    have hp : p ∈ [] :: T.pathsL 0 ts := hp
    rcases List.mem_cons.mp hp with rfl | hp
    · exact Nat.zero_le _
    · have := T.paths_lv.go ts 0 p hp
      have := h.2.1
      omega
theorem Lx.paths_M {l : Lx} (S : Sto) (h : l.Ok) : c__law_paths 40 [l.d, .tup []] S = .ok (.lst (l.paths.map fun p => dI (iN p))) S := by
  cases l with
  | one t => exact Rf.paths_M 40 t [] S h.1 (by have := h.2.1; omega) h.2.2 (by decide)
  | row ts =>
    obtain ⟨h1, h2, h3, h4⟩ := h
    exact pathsL_M 39 (fun t q' S h1 h2 h3 h4 => Rf.paths_M 39 t q' S h1 h2 h3 h4) sRow (.inr rfl) ts [] S h1 (by omega) h3 h4 (by decide)
theorem Lx.paths_n {l : Lx} (h : l.Ok) : l.paths ≠ [] ∧ l.paths.length ≤ 20001 := by
  cases l with
  | one t =>
    have := T.paths_len t
    have := h.2.2
    have := t.sz_pos
    refine ⟨fun z => ?_, by show t.paths.length ≤ _; omega⟩
    have z : t.paths = [] := z
    have h5 := T.paths_len t
    rw [z] at h5
    simp at h5
    omega
  | row ts =>
    have := T.pathsL_len 0 ts
    have := h.2.2.1
    exact ⟨by show [] :: _ ≠ []; simp, by show ([] :: T.pathsL 0 ts).length ≤ _; rw [List.length_cons]; omega⟩
local macro_rules | `(tactic| walk_at "rf") => `(tactic| first
  | ((with_reducible apply ex_hyp); (· with_reducible assumption))
  | ((with_reducible apply wp.eq); (· with_reducible assumption))
  | (with_reducible refine Wp.imp ?_)
  | (with_reducible refine Ws.imp ?_)
  | ((with_reducible apply w_draw); (· assumption); (· first | decide | omega); (· first | decide | assumption | exact Nat.lt_of_lt_of_le (lgi (k := 64) (by omega) (by decide)) (by decide)); intro r S' h0 h1 hd)
  | ((with_reducible apply w_one); (· assumption); (· intro h; cases h); (· exact Nat.le_of_ble_eq_true rfl); intro x S' hx hd)
  | ((with_reducible apply w_oneS); (· assumption); (· decide); (· decide); intro x S' hx hd)
  | ((with_reducible apply w_oneT); (· assumption); (· intro h; cases h); (· exact Nat.le_of_ble_eq_true rfl); intro x S' hx hd)
  | ((with_reducible apply f_cons); (· exact rfl))
  | ((with_reducible apply f_nil); (· exact rfl))
  | ((with_reducible apply l_cons); (· exact rfl))
  | ((with_reducible apply l_nil); (· exact rfl))
  | ((with_reducible apply g_len); (· exact rfl); (· first | assumption | omega | (simp only [List.length_append, List.length_cons, List.length_nil]; omega)))
  | ((with_reducible apply g_rng1); (· exact rfl); (· constructor <;> omega))
  | ((with_reducible apply g_rng2); (· exact rfl); (· refine ⟨?_, ?_⟩ <;> constructor <;> omega))
  | (with_reducible refine g_op ?_)
  | ((with_reducible refine g_og ?_ ?_); (· first | assumption | decide | omega | (simp only [List.length_append, List.length_cons, List.length_nil]; omega)))
  | ((with_reducible apply Exists.intro)
     (fail_if_success (with_reducible refine g_og ?_ ?_))
     (repeat (with_reducible apply Exists.intro))
     refine And.intro rfl ?_)
  | (with_reducible refine g_ift ?_)
  | (with_reducible refine g_iff ?_)
  | ((with_reducible refine g_ifd (fun ht => ?_) (fun ht => ?_)) <;> first | (exfalso; omega) | skip)
  | ((with_reducible apply r_isT); (· first | exact rfl | assumption))
  | ((with_reducible apply r_isF); (· first | exact rfl | assumption))
  | ((with_reducible refine r_dec (fun ht => ?_) (fun ht => ?_)) <;> first | (exfalso; omega) | skip)
  | ((with_reducible refine r_ndec (fun ht => ?_) (fun ht => ?_)) <;> first | (exfalso; omega) | skip)
  | ((with_reducible refine And.intro ?_ ?_); exact rfl)
  | ((with_reducible refine And.intro ?_ ?_); exact Nat.le_of_ble_eq_true rfl)
  | (with_reducible exact rfl)
  | (with_reducible apply u__law_signs)
  | (with_reducible apply u_is_number)
  | (with_reducible apply u_has_signs)
  | (with_reducible apply u__law_signs)
  | (with_reducible apply u_is_number)
  | (with_reducible apply u_has_signs))
theorem look_bad {V : D} {e : D} {z : List Nat} {S : Sto} (h : c_first_error 40 [V, .tup []] S = .ok (.tup [e, .str z]) S) : c_look_error [V] S = .ok (.tup [e, .str z]) S := ok_of (by
  refine u_look_error ?_
  repeat' walk_at "rf")
theorem pl_ints : ∀ ns : List Int, plL (ns.map D.int) = true ∧ dpL (ns.map D.int) = 0
  | [] => ⟨rfl, rfl⟩
  | n :: ns => by
    obtain ⟨h1, h2⟩ := pl_ints ns
    exact ⟨by rw [List.map_cons, plL, h1]; rfl, by rw [List.map_cons, dpL, h2]; rfl⟩
theorem pl_pt (ns : List Int) (z : List Nat) (h : ns.length ≤ 100) : pl (.tup [dTI ns, .str z]) = true := by
  show (decide ([dTI ns, D.str z].length ≤ 100000) && ((decide ((ns.map D.int).length ≤ 100000) && plL (ns.map D.int)) && (pl (.str z) && true))) = true
  rw [(pl_ints ns).1, decide_eq_true (show (ns.map D.int).length ≤ 100000 by rw [List.length_map]; omega)]
  rfl
theorem dp_pt (ns : List Int) (z : List Nat) : dp (.tup [dTI ns, .str z]) < 40 := by
  show max (dpL (ns.map D.int) + 1) (max 0 0) + 1 < 40
  rw [(pl_ints ns).2]
  decide
noncomputable abbrev tl : SM := (sSeq (sSet 6 (eFn (c__law_paths 40) (aCons (eVar 3) (aCons (eTup (aNil)) (aNil))))) (sSeq (sDct 7) (sSeq (sFor (iArgs rng1 (aCons (eBin oAdd (eC (.int 1)) (eFn c__law_draw (aCons (eVar 1) (aCons (eC (.int 3)) (aNil))))) (aNil))) (.nm 5) (sSeq (sSet 8 (eFn c__law_one (aCons (eVar 1) (aCons (eVar 6) (aNil))))) (sSeq (sPutT 7 (eVar 8) (eFn c__law_wrong (aCons (eVar 1) (aCons (eBin cEq (pVar 8) (eTup (aNil))) (aNil))))) (sNil)))) (sSeq (sSet 9 (eVar 3)) (sSeq (sFor (iVal (eFz (fRev (eFz (fCall bSortT (aCons (eFz (fKeysT 7)) (aNil))))))) (.nm 8) (sSeq (sSet 9 (eFn (c__law_put 40) (aCons (eVar 9) (aCons (eVar 8) (aCons (eBin oIx (eGetT 7 (eVar 8)) (eC (.int 0))) (aNil)))))) (sNil))) (sSeq (sSet 10 (eCall bMinT (aCons (eFz (fKeysT 7)) (aNil)))) (sSeq (sIf (tNt (tTr (eFn (c__law_same 40) (aCons (eFn c_look_error (aCons (eVar 9) (aNil))) (aCons (eTup (aCons (eVar 10) (aCons (eBin oIx (eGetT 7 (eVar 10)) (eC (.int 1))) (aNil)))) (aNil)))))) (sSeq (sRet (eC (.bl false))) (sNil)) (sNil)) (sNil))))))))
abbrev sl (ns : List Int) (a l b c d e f g h : LV) : Ls := [.v (.scr ns), .v (.obj 1), a, l, b, c, d, e, f, g, h]
theorem tail {T0 S : Sto} {n : Nat} {PS : Fl → Ls → Sto → Prop} {ns : List Int} {l : Lx} (hl : l.Ok) (a b c d e f g h : LV) (hd : Deck T0 (n + 10) S)
    (k : ∀ (b c d e f g h : LV) (S' : Sto), Deck T0 n S' → PS .nx (sl ns a (.v l.d) b c d e f g h) S') : wps (tl (sl ns a (.v l.d) b c d e f g h) S) PS := by
  have big : 100000 ≤ sizeLine := by decide
  have e1 := Lx.paths_M (l := l) S hl
  obtain ⟨ne, nl⟩ := Lx.paths_n hl
  have hd : Deck T0 (n + 9 + 1) S := hd
  repeat' walk_at "rf"
  rename_i r S1 r0 r1 hd1
  refine wps_rng (fun j m L S' => ∃ (kvs : Dct) (c' f' : LV), L = sl ns a (.v l.d) b c' (.v (.lst (l.paths.map fun p => dI (iN p)))) (.o (.dT kvs)) f' g h ∧ GoodK l kvs ∧ kvs.length + m ≤ 3 ∧ (kvs ≠ [] ∨ 0 < m) ∧ Deck T0 (n + m * 3) S') ?_ ?_ _ _ _ _ ⟨[], _, _, rfl, ⟨fun e he => (by cases he), List.nodup_nil⟩, by simp; omega, .inr (by omega), hd1.le (by omega)⟩
  · rintro j m L S' ⟨kvs, c', f', rfl, hk, h1, h2, hd⟩
    have hd : Deck T0 (n + m * 3 + 2 + 1) S' := hd.le (by omega)
    refine ⟨_, rfl, ?_⟩
    repeat' walk_at "rf"
    refine w_one (n := n + m * 3 + 2) hd (by simpa using ne) (by rw [List.length_map]; exact Nat.lt_of_le_of_lt nl (by decide)) fun x S2 hx hd2 => ?_
    obtain ⟨p, hp, rfl⟩ := List.mem_map.mp hx
    have e0 : cEq (dI (iN p)) (.tup []) = some (.bl (decide (iN p = []))) := cEq_ints (iN p) []
    repeat' walk_at "rf"
    refine w_wrong (n := n + m * 3) (decide (iN p = [])) hd2 fun x z S3 ho hd3 => ?_
    repeat' walk_at "rf"
    refine ⟨kp p, ksI_map _, by omega, ?_⟩
    obtain ⟨g1, g2, g3⟩ := put_good (q := kp p) (d := .lst [x, .str z]) hk ⟨p, hp, x, z, rfl, ho⟩
    exact ⟨dPut kvs (kp p) (.lst [x, .str z]), _, _, rfl, g1, by omega, .inl g3, hd3⟩
  · rintro j L S' ⟨kvs, c', f', rfl, hk, h1, h2, hd⟩
    have hne : kvs ≠ [] := h2.resolve_right (by omega)
    have hsort : bSortT [.lst (kvs.map fun kv => .tup (kv.1.map kD))] = some ((srtL (KS kvs)).map dTI) := by
      rw [keysD hk]
      show (if ((KS kvs).map dTI).length < 64 then _ else none) = _
      rw [if_pos (by rw [List.length_map, List.length_map]; omega), iTs_map]
      rfl
    obtain ⟨n0, m0, hks⟩ : ∃ n0 m0, KS kvs = n0 :: m0 := by
      cases kvs with
      | nil => exact absurd rfl hne
      | cons e kvs => exact ⟨_, _, rfl⟩
    have hmin : bMinT [.lst (kvs.map fun kv => .tup (kv.1.map kD))] = some (dTI (minL n0 m0)) := by
      rw [keysD hk, hks]
      show (match iTs ((n0 :: m0).map dTI) with
        | some (n :: l) => some (dTI (minL n l))
        | _ => none) = _
      rw [iTs_map]
    repeat' walk_at "rf"
    refine ⟨_, hsort, ?_⟩
    repeat' walk_at "rf"
    rw [← List.map_reverse]
    show wps (forL none _ _ _ ((RK kvs).map dTI) _ _) _
    have hRne : RK kvs ≠ [] := fun z => by
      have := (srtL_perm (KS kvs)).length_eq
      rw [List.reverse_eq_nil_iff] at z
      rw [z, hks] at this
      cases this
    refine wps_ea (f := dTI) (fun as L S2 => S2 = S' ∧ ∃ (V : D) (pre : List (List Int)) (f2 : LV), L = sl ns a (.v l.d) b c' (.v (.lst (l.paths.map fun p => dI (iN p)))) (.o (.dT kvs)) f2 (.v V) h ∧ RK kvs = pre ++ as ∧
      ((as ≠ [] ∧ ∀ p, iN p ∈ as → p ∈ l.paths → Pre false V p) ∨ (as = [] ∧ ∃ (V' : D) (p : List Nat) (x : D) (z : List Nat) (pre' : List (List Int)), p ∈ l.paths ∧ RK kvs = pre' ++ [iN p] ∧ V = putD V' p x ∧ Pre false V' p ∧ dGet kvs (kp p) = some (.lst [x, .str z]) ∧ ∀ S, c_own_error [x, .bl (!decide (iN p = []))] S = .ok (.str z) S))) ?_ ?_ _ _ _ ⟨rfl, l.d, [], f', rfl, rfl, .inl ⟨hRne, fun p _ hp => Lx.pre hl hp⟩⟩
    · rintro r1 as L S2 ⟨rfl, V, pre, f2, rfl, e2, hV⟩
      have hr1 : r1 ∈ RK kvs := by rw [e2]; simp
      obtain ⟨p, hp, rfl, x, z, hg, ho⟩ := RK_mem hk hr1
      have hpre : ∀ q, iN q ∈ iN p :: as → q ∈ l.paths → Pre false V q := by
        rcases hV with ⟨_, hV⟩ | ⟨z, _⟩
        · exact hV
        · cases z
      have hp1 := hpre p List.mem_cons_self hp
      have hput : c__law_put 40 [V, dTI (iN p), x] S2 = .ok (putD V p x) S2 := put_M p 40 false V S2 hp1 (by have := Lx.paths_lv hl hp; omega)
      refine ⟨_, rfl, ?_⟩
      repeat' walk_at "rf"
      refine ⟨kp p, ksI_map _, _, hg, ?_⟩
      repeat' walk_at "rf"
      rotate_left 1
      · exact pre ++ [iN p]
      refine ⟨by rw [e2, List.append_assoc]; rfl, ?_⟩
      by_cases ha : as = []
      · subst ha
        exact .inr ⟨rfl, V, p, x, z, pre, hp, e2, rfl, hp1, hg, ho⟩
      · refine .inl ⟨ha, fun q hq hql => put_pre (hpre q (List.mem_cons_of_mem _ hq) hql) hp1 ?_⟩
        have := RK_pw hk
        rw [e2] at this
        exact pw_mid this _ hq
    · rintro L S2 ⟨rfl, V, pre, f2, rfl, e2, hV⟩
      rcases hV with ⟨z, _⟩ | ⟨_, V', p, x, z, pre', hp, e3, rfl, hp1, hg, ho⟩
      · exact absurd rfl z
      have emin := last_min hk e3 hks
      rw [emin] at hmin
      have hlen := Lx.paths_lv hl hp
      have hbad : c_look_error [putD V' p x] S2 = .ok (.tup [dI (iN p), .str z]) S2 := look_bad (fe_bad p 40 V' [] S2 hp1 (by omega) (by show 0 + p.length ≤ 1000; omega) ho)
      repeat' walk_at "rf"
      refine ⟨_, hmin, ?_⟩
      repeat' walk_at "rf"
      refine ⟨kp p, ksI_map _, _, hg, ?_⟩
      repeat' walk_at "rf"
      refine same_ok rfl (pl_pt (iN p) z (by simp; omega)) (dp_pt (iN p) z) ?_
      repeat' walk_at "rf"
      exact k _ _ _ _ _ _ _ _ hd

end Rf

set_option Elab.async false
set_option linter.all false
set_option maxRecDepth 100000
set_option maxHeartbeats 0
namespace Rf
open PySem PySem.Spec PyProof.Rows L2 TL Rf
open Lw
theorem oks_ap : ∀ {a b : List T}, T.oks a = true → T.oks b = true → T.oks (a ++ b) = true
  | [], _, _, h => h
  | t :: a, b, h, h2 => by
    rw [T.oks, Bool.and_eq_true] at h
    rw [List.cons_append, T.oks, h.1, oks_ap h.2 h2]; rfl
theorem lvs_ap : ∀ {a b : List T} {m : Nat}, T.lvs a ≤ m → T.lvs b ≤ m → T.lvs (a ++ b) ≤ m
  | [], _, _, _, h => h
  | t :: a, b, m, h, h2 => by
    rw [T.lvs] at h
    have := lvs_ap (a := a) (m := m) (by omega) h2
    rw [List.cons_append, T.lvs]; omega
theorem szs_ap : ∀ (a b : List T), T.szs (a ++ b) = T.szs a + T.szs b
  | [], _ => by simp [T.szs]
  | t :: a, b => by rw [List.cons_append, T.szs, szs_ap a b, T.szs]; omega
theorem szs_30 : ∀ (a : List T), (∀ t ∈ a, t.sz ≤ 30) → T.szs a ≤ 30 * a.length
  | [], _ => by simp [T.szs]
  | t :: a, h => by
    have h1 := szs_30 a fun u hu => h u (List.mem_cons_of_mem _ hu)
    have h2 := h t List.mem_cons_self
    rw [T.szs, List.length_cons]; omega
theorem rowAt_no : ∀ (a : List T) (j : Int), (∀ t ∈ a, t.sz ≤ 30) → rowAt j a = .non
  | [], _, _ => by rw [rowAt]
  | t :: a, j, h => by
    rw [rowAt, if_neg (by have := h t List.mem_cons_self; omega)]
    exact rowAt_no a _ fun u hu => h u (List.mem_cons_of_mem _ hu)
theorem row_ok {a : List T} (h1 : T.oks a = true) (h2 : a.length ≤ 100) (h3 : T.lvs a ≤ 6) (h4 : ∀ t ∈ a, t.sz ≤ 30) : (Lx.row a).Ok :=
  ⟨h1, by omega, by have := szs_30 a h4; omega, by omega⟩
theorem one_ok {a : List T} (h1 : T.oks a = true) (h2 : a.length ≤ 100) (h3 : T.lvs a ≤ 9) (h4 : T.szs a ≤ 19000) : (Lx.one (.tup a)).Ok :=
  ⟨by rw [T.ok, h1, decide_eq_true (by omega)]; rfl, by rw [T.lv]; omega, by rw [T.sz]; omega⟩
theorem tail2 {T0 S : Sto} {n : Nat} {PS : Fl → Ls → Sto → Prop} {ns : List Int} {V : D} (l : Lx) (el : l.d = V) (hl : l.Ok) (a b c d e f g h : LV) (hd : Deck T0 (n + 10) S)
    (k : ∀ (a l b c d e f g h : LV) (S' : Sto), Deck T0 n S' → PS .nx (sl ns a l b c d e f g h) S') : wps (tl (sl ns a (.v V) b c d e f g h) S) PS := by
  subst el
  exact tail hl a b c d e f g h hd (fun b c d e f g h S' q => k _ _ _ _ _ _ _ _ _ S' q)
theorem stop_tl {L : Ls} {S : Sto} {PS : Fl → Ls → Sto → Prop} (h : stopL (wps (tl L S) PS)) : wps (tl L S) PS := h
theorem stopP3_in {all xs : List D} {t : Tg} {b : SM} {L : Ls} {S : Sto} {PS : Fl → Ls → Sto → Prop} (h : stopL (wps (forL none all t b xs L S) PS)) : wps (forL none all t b xs L S) PS := h
local macro_rules | `(tactic| walk_at "rf") => `(tactic| first
  | (with_reducible refine stopP3_in ?_)
  | (with_reducible refine stop_tl ?_)
  | ((with_reducible apply ex_hyp); (· with_reducible assumption))
  | ((with_reducible apply wp.eq); (· with_reducible assumption))
  | (with_reducible refine Wp.imp ?_)
  | (with_reducible refine Ws.imp ?_)
  | ((with_reducible apply w_draw); (· assumption); (· first | decide | omega); (· first | decide | assumption | exact Nat.lt_of_lt_of_le (lgi (k := 64) (by omega) (by decide)) (by decide)); intro r S' h0 h1 hd)
  | ((with_reducible apply w_one); (· assumption); (· intro h; cases h); (· exact Nat.le_of_ble_eq_true rfl); intro x S' hx hd)
  | ((with_reducible apply w_oneS); (· assumption); (· decide); (· decide); intro x S' hx hd)
  | ((with_reducible apply w_oneT); (· assumption); (· intro h; cases h); (· exact Nat.le_of_ble_eq_true rfl); intro x S' hx hd)
  | ((with_reducible apply f_cons); (· exact rfl))
  | ((with_reducible apply f_nil); (· exact rfl))
  | ((with_reducible apply l_cons); (· exact rfl))
  | ((with_reducible apply l_nil); (· exact rfl))
  | ((with_reducible apply g_len); (· exact rfl); (· first | assumption | omega | (simp only [List.length_append, List.length_cons, List.length_nil]; omega)))
  | ((with_reducible apply g_rng1); (· exact rfl); (· constructor <;> omega))
  | ((with_reducible apply g_rng2); (· exact rfl); (· refine ⟨?_, ?_⟩ <;> constructor <;> omega))
  | (with_reducible refine g_op ?_)
  | ((with_reducible refine g_og ?_ ?_); (· first | assumption | decide | omega | (simp only [List.length_append, List.length_cons, List.length_nil]; omega)))
  | ((with_reducible apply Exists.intro)
     (fail_if_success (with_reducible refine g_og ?_ ?_))
     (repeat (with_reducible apply Exists.intro))
     refine And.intro rfl ?_)
  | (with_reducible refine g_ift ?_)
  | (with_reducible refine g_iff ?_)
  | ((with_reducible refine g_ifd (fun ht => ?_) (fun ht => ?_)) <;> first | (exfalso; omega) | skip)
  | ((with_reducible apply r_isT); (· first | exact rfl | assumption))
  | ((with_reducible apply r_isF); (· first | exact rfl | assumption))
  | ((with_reducible refine r_dec (fun ht => ?_) (fun ht => ?_)) <;> first | (exfalso; omega) | skip)
  | ((with_reducible refine r_ndec (fun ht => ?_) (fun ht => ?_)) <;> first | (exfalso; omega) | skip)
  | ((with_reducible refine And.intro ?_ ?_); exact rfl)
  | ((with_reducible refine And.intro ?_ ?_); exact Nat.le_of_ble_eq_true rfl)
  | (with_reducible exact rfl)
  | (with_reducible apply u__law_signs)
  | (with_reducible apply u_is_number)
  | (with_reducible apply u_has_signs)
  | (with_reducible apply u__law_signs)
  | (with_reducible apply u_is_number)
  | (with_reducible apply u_has_signs))
theorem _root_.Lw.law_true (ns : List Int) (h : ns.length ≤ 63) : ∃ S, c_law [.scr ns] [] = .ok (.bl true) S := by
  obtain ⟨S0, e0, hd0⟩ := deck_new h (n := 2 * (3 * cost 6 + 600)) (by decide)
  suffices q : wp (c_law [.scr ns] []) fun d _ => d = .bl true by
    obtain ⟨d, S, e, rfl⟩ := q.ex
    exact ⟨S, e⟩
  have big : 500000 ≤ sizeLine := by decide
  unfold c_law
  refine q_fn rfl ?_
  repeat' walk_at "rf"
  unfold stopL
  refine wps_rng (fun j r L S => (∃ a b c d e f g h i, L = sl ns a b c d e f g h i) ∧ Deck [] (r * (3 * cost 6 + 600)) S) ?_ ?_ _ _ _ _ ⟨⟨_, _, _, _, _, _, _, _, _, rfl⟩, ?_⟩
  · rintro j m L S ⟨⟨a, b, c, d, e, f, g, h, i, rfl⟩, hd⟩
    have e7 : (m + 1) * (3 * cost 6 + 600) = m * (3 * cost 6 + 600) + (3 * cost 6 + 600) := Nat.succ_mul _ _
    rw [e7] at hd
    obtain ⟨K, hK⟩ : ∃ K, K = m * (3 * cost 6 + 600) := ⟨_, rfl⟩
    rw [← hK] at hd ⊢
    refine ⟨_, rfl, ?_⟩
    repeat' walk_at "rf"
    refine w_any (n := K + 599 + 1) (hd.le (by omega)) (fun t S1 t1 t2 t3 hd1 => ?_) (fun ts S1 t1 t2 t3 t4 hd1 => ?_)
    · have e1 := look_ok (S := S1) t t1 (by omega)
      rw [if_neg (by omega)] at e1
      cases t with
      | odd =>
        rw [T.d] at e1 ⊢
        repeat' walk_at "rf"
        unfold stopL
        exact tail2 (n := K) (.one .odd) (by rw [Lx.d, T.d]) ⟨rfl, by decide, by decide⟩ _ _ _ _ _ _ _ _ (hd1.le (by omega)) fun a l b c d e f g h S' hd => ⟨⟨_, _, _, _, _, _, _, _, _, rfl⟩, hd⟩
      | num v =>
        rw [T.d] at e1 ⊢
        repeat' walk_at "rf"
        unfold stopL
        exact tail2 (n := K) (.one (.num v)) (by rw [Lx.d, T.d]) ⟨t1, by rw [T.lv]; decide, by rw [T.sz]; decide⟩ _ _ _ _ _ _ _ _ (hd1.le (by omega)) fun a l b c d e f g h S' hd => ⟨⟨_, _, _, _, _, _, _, _, _, rfl⟩, hd⟩
      | word v =>
        rw [T.d] at e1 ⊢
        repeat' walk_at "rf"
        unfold stopL
        exact tail2 (n := K) (.one (.word v)) (by rw [Lx.d, T.d]) ⟨t1, by rw [T.lv]; decide, by rw [T.sz]; decide⟩ _ _ _ _ _ _ _ _ (hd1.le (by omega)) fun a l b c d e f g h S' hd => ⟨⟨_, _, _, _, _, _, _, _, _, rfl⟩, hd⟩
      | tup xs =>
        rw [T.d, T.ds_map] at e1 ⊢
        rw [T.ok, Bool.and_eq_true] at t1
        rw [T.lv] at t3
        rw [T.sz] at t2
        have xl := szs_len3 xs
        repeat' walk_at "rf"
        · rename_i r2 S2 r0 r1 hd2
          refine lc_rng (fun j m acc S => ∃ us : List T, acc = us.map T.d ∧ us.length + m = (1 + r2).toNat ∧ T.oks us = true ∧ T.lvs us ≤ 6 ∧ (∀ t ∈ us, t.sz ≤ 30) ∧ Deck [] (K + 100 + m * 10) S) ?_ ?_ _ _ _ _ ⟨[], rfl, by simp, rfl, Nat.zero_le _, by simp, Deck.le (by assumption) (by omega)⟩
          · rintro j m acc S3 ⟨us, rfl, e1, e2, e3, e4, hd⟩
            refine ⟨_, rfl, ?_⟩
            have hl : (us.map T.d).length < sizeLine := by rw [List.length_map]; omega
            repeat' walk_at "rf"
            refine w_atom (n := K + 100 + m * 10) (hd.le (by omega)) fun t S4 a1 a2 a3 a4 => ?_
            repeat' walk_at "rf"
            refine ⟨hl, us ++ [t], by rw [List.map_append]; rfl, by rw [List.length_append, List.length_singleton]; omega, oks_app3 e2 a1, lvs_app3 e3 (by omega), fun u hu => ?_, a4⟩
            rcases List.mem_append.mp hu with hu | hu
            · exact e4 u hu
            · rw [List.mem_singleton.mp hu]; omega
          rintro j S3 acc ⟨us, rfl, e1, e2, e3, e4, hd3⟩
          have hd3 : Deck [] (K + 99 + 1) S3 := hd3.le (by omega)
          have hs1 : (xs.map T.d).length + (us.map T.d).length ≤ sizeLine := by rw [List.length_map, List.length_map]; omega
          have hs2 : (us.map T.d).length + (xs.map T.d).length ≤ sizeLine := by rw [List.length_map, List.length_map]; omega
          repeat' walk_at "rf"
          all_goals unfold stopL
          · exact tail2 (n := K) (.one (.tup (xs ++ us))) (by rw [Lx.d, T.d, T.ds_map, List.map_append]) (one_ok (oks_ap t1.2 e2) (by rw [List.length_append]; omega) (lvs_ap (by omega) (by omega)) (by have := szs_30 us e4; rw [szs_ap]; omega)) _ _ _ _ _ _ _ _ (Deck.le (by assumption) (by omega)) fun a l b c d e f g h S' hd => ⟨⟨_, _, _, _, _, _, _, _, _, rfl⟩, hd⟩
          · exact tail2 (n := K) (.one (.tup (us ++ xs))) (by rw [Lx.d, T.d, T.ds_map, List.map_append]) (one_ok (oks_ap e2 t1.2) (by rw [List.length_append]; omega) (lvs_ap (by omega) (by omega)) (by have := szs_30 us e4; rw [szs_ap]; omega)) _ _ _ _ _ _ _ _ (Deck.le (by assumption) (by omega)) fun a l b c d e f g h S' hd => ⟨⟨_, _, _, _, _, _, _, _, _, rfl⟩, hd⟩
        · rename_i S2 _ _ _ _ hd2
          unfold stopL
          exact tail2 (n := K) (.one (.tup xs)) (by rw [Lx.d, T.d, T.ds_map]) ⟨by rw [T.ok, t1.2, t1.1]; rfl, by rw [T.lv]; omega, by rw [T.sz]; omega⟩ _ _ _ _ _ _ _ _ (Deck.le (by assumption) (by omega)) fun a l b c d e f g h S' hd => ⟨⟨_, _, _, _, _, _, _, _, _, rfl⟩, hd⟩
    · have e1 := look_row (S := S1) ts t1 (by omega) (by omega)
      rw [if_neg (by omega), rowAt_no ts 0 t4] at e1
      repeat' walk_at "rf"
      · rename_i r2 S2 r0 r1 hd2
        refine lc_rng (fun j m acc S => ∃ us : List T, acc = us.map T.d ∧ us.length + m = (1 + r2).toNat ∧ T.oks us = true ∧ T.lvs us ≤ 6 ∧ (∀ t ∈ us, t.sz ≤ 30) ∧ Deck [] (K + 100 + m * 10) S) ?_ ?_ _ _ _ _ ⟨[], rfl, by simp, rfl, Nat.zero_le _, by simp, Deck.le (by assumption) (by omega)⟩
        · rintro j m acc S3 ⟨us, rfl, e1, e2, e3, e4, hd⟩
          refine ⟨_, rfl, ?_⟩
          have hl : (us.map T.d).length < sizeLine := by rw [List.length_map]; omega
          repeat' walk_at "rf"
          refine w_atom (n := K + 100 + m * 10) (hd.le (by omega)) fun t S4 a1 a2 a3 a4 => ?_
          repeat' walk_at "rf"
          refine ⟨hl, us ++ [t], by rw [List.map_append]; rfl, by rw [List.length_append, List.length_singleton]; omega, oks_app3 e2 a1, lvs_app3 e3 (by omega), fun u hu => ?_, a4⟩
          rcases List.mem_append.mp hu with hu | hu
          · exact e4 u hu
          · rw [List.mem_singleton.mp hu]; omega
        rintro j S3 acc ⟨us, rfl, e1, e2, e3, e4, hd3⟩
        have hd3 : Deck [] (K + 99 + 1) S3 := hd3.le (by omega)
        have hs1 : (ts.map T.d).length + (us.map T.d).length ≤ sizeLine := by rw [List.length_map, List.length_map]; omega
        have hs2 : (us.map T.d).length + (ts.map T.d).length ≤ sizeLine := by rw [List.length_map, List.length_map]; omega
        repeat' walk_at "rf"
        all_goals unfold stopL
        · exact tail2 (n := K) (.row (ts ++ us)) (by rw [Lx.d, List.map_append]) (row_ok (oks_ap t1 e2) (by rw [List.length_append]; omega) (lvs_ap t3 e3) (fun u hu => (List.mem_append.mp hu).elim (t4 u) (e4 u))) _ _ _ _ _ _ _ _ (Deck.le (by assumption) (by omega)) fun a l b c d e f g h S' hd => ⟨⟨_, _, _, _, _, _, _, _, _, rfl⟩, hd⟩
        · exact tail2 (n := K) (.row (us ++ ts)) (by rw [Lx.d, List.map_append]) (row_ok (oks_ap e2 t1) (by rw [List.length_append]; omega) (lvs_ap e3 t3) (fun u hu => (List.mem_append.mp hu).elim (e4 u) (t4 u))) _ _ _ _ _ _ _ _ (Deck.le (by assumption) (by omega)) fun a l b c d e f g h S' hd => ⟨⟨_, _, _, _, _, _, _, _, _, rfl⟩, hd⟩
      · unfold stopL
        exact tail2 (n := K) (.row ts) rfl (row_ok t1 (by omega) t3 t4) _ _ _ _ _ _ _ _ (Deck.le (by assumption) (by omega)) fun a l b c d e f g h S' hd => ⟨⟨_, _, _, _, _, _, _, _, _, rfl⟩, hd⟩
  · rintro j L S ⟨⟨a, b, c, d, e, f, g, h, i, rfl⟩, hd⟩
    repeat' walk_at "rf"
  · exact hd0.le (by decide)

end Rf

set_option Elab.async false
set_option linter.all false
set_option maxRecDepth 100000
set_option maxHeartbeats 0
open PySem PySem.W PySem.Calls PyProof.Rows
theorem PySem.Challenge.cw_maybesame_k01_first_errors_of_looks_holds : PySem.Challenge.rw_maybesame_k01_first_errors_of_looks.Holds := by
  w_on; o_law
  refine HandSHeadRun.head_any (r := OpenLaw.row PySem.Challenge.rw_maybesame_k01_first_errors_of_looks) (q := view (OpenLaw.row PySem.Challenge.rw_maybesame_k01_first_errors_of_looks).prog [32]) (H := Lw.hk) (ob := Lw.ob) (M := 9000) (loose := Lw.loose) (d := HandSHeadRun.topDef (OpenLaw.row PySem.Challenge.rw_maybesame_k01_first_errors_of_looks).prog 32) (kwd := []) Lw.ob_eq
    (by kernel_rfl) (fun s => by kernel_rfl) Lw.run (by kernel_rfl) (by kernel_rfl) (by kernel_rfl) (by rfl) (by first | assumption | decide +kernel) (by decide +kernel) ⟨rfl, rfl, rfl, rfl, rfl, by decide +kernel⟩ ?hw ?hc
  case hw => w_witness2
  case hc =>
    refine Rf.rf_walk (l := PySem.Challenge.rw_maybesame_k01_first_errors_of_looks) (n := 63) (k := 84) (x := "_law_script") (c := Lw.c_law) rfl (by decide) (by kernel_rfl) ⟨rfl, by decide, by decide⟩ ?F Lw.law_true
    intro w mg fa h Y G hmg0
    obtain ⟨K, KX, c, ck⟩ := Y
    have hmg : mg ("law" : PySem.Str) = some (.ref fa) := by
      have e : (HandSHeadRun.topDef (OpenLaw.row PySem.Challenge.rw_maybesame_k01_first_errors_of_looks).prog 32).name = ("law" : PySem.Str) := by kernel_rfl
      rw [← e]
      exact hmg0
    have fc := Lw.facts KX G c ck
    obtain ⟨f1, fd1, F1, g1⟩ := fc.d_law
    have e1 : f1 = fa := by
      rw [hmg] at g1
      cases g1; rfl
    subst e1
    exact ⟨K, fd1, KX, fun s v => L2.FunD.bindsA (ps := ["_law_script"]) F1 (fun _ _ _ _ _ _ us hl => match us, hl with | [_], _ => rfl) s [v] rfl, fun base => Lw.okf_law fc F1⟩


import PyProof.Rows.All
import Wide.All
import OpenK.AllK
import Wide.FinOn
import HandS.ForMost
import HandS.ForExc
import HandS.Defaults
import HandS.CallSlots
import HandS.TryOnly
import HandS.Zip
import HandS.Wide
import HandS.IsInst
import HandS.Style
import KE.KeyNested
import HandS.TupAny
import HandS.TupMul
import HandS.WideBits
import HandS.SortInts
import KE.GoesEnum
import HandS.Head0
import HandS.Head1
import HandS.Head2
import HandS.HeadEnd
import HandS.HeadHook1
import HandS.HeadHook2
import HandS.HeadHook3
import HandS.HeadHook4
import HandS.FStr
import HandS.RaiseMore
import HandS.SetBool
import HandS.SetTxt0
import PyProof.Rows.SortShellAny
import HandS.Strs
import HandS.ExcField
import HandS.ExcIs
import HandS.TryMany
import HandS.Conv
import HandS.TupLe
import HandS.TupSets
import HandS.Keys
import HandS.FltList
import HandS.SetKeys
import HandS.Nested
import KE.KSuper
import PyProof.ReprRoads
import HandS.Small
import HandS.More
import HandS.Deep
import PyProof.EqKinds
import PyProof.Rows.IntBool
import PyProof.P3In
import HandS.New0
import HandS.WordsDict
import HandS.Star
import KE.KExcInit
import PyProof.Rows.TupTab
import HandS.Rev
import HandS.Property
import PySem.Challenge.RW_maybesame_k26_whole_same_in_every_divisi
import PyProof.ReprBulk
set_option Elab.async false
set_option linter.all false
set_option maxRecDepth 100000
namespace Rf
open PySem L2
/-- a value as a tree; lists and dicts here are never changed again; what is changed through aliases stands in the store, by its number -/
inductive D where
  | non | bl (b : Bool) | int (i : Int) | str (x : List Nat)
  | tup (xs : List D) | lst (xs : List D)
  | obj (n : Nat) | gl (x : Str) | ty (n : String)
  /-- the law's script -/
  | scr (xs : List Int)
  /-- an empty dict, an instance of the class named c, its attributes named ns; both never changed again -/
  | edc | ins (c : Str) (ns : List Str) (xs : List D)
  deriving Inhabited
/-- what may be changed -/
inductive O where
  | lst (xs : List D)
  /-- dicts with keys that are ints and texts, with keys that are tuples of these; an instance -/
  | dK (kvs : List (Key × D)) | dT (kvs : List (List Key × D)) | ins (c : Str) (ns : List Str) (xs : List D)
  /-- a dict whose keys are tuples of ints, texts, None and such tuples -/
  | dN (kvs : List (NestedKey × D))
  deriving Inhabited
structure Exn where
  cls : Str
  fs : List (Str × D)
/-- a result: a value and the store, an exception, or nothing is known -/
inductive R (α : Type) where
  | ok (a : α) (S : List O)
  | ex (x : Exn) (S : List O)
  | no
@[reducible] def R.bind {α β : Type} (r : R α) (f : α → List O → R β) : R β := match r with
  | .ok a S => f a S
  | .ex x S => .ex x S
  | .no => .no
/-- a local: nothing, a value, an object of the frame's own -/
inductive LV where
  | un | v (d : D) | o (o : O)
  /-- the exception that the suite holds -/
  | exc (x : Exn)
  deriving Inhabited
abbrev Ls := List LV
abbrev Sto := List O
abbrev EM := Ls → Sto → R D
/-- ghost: what is never written again, where the store's objects stand, how many they are -/
structure G where
  F : Addr → Prop
  ρ : Nat → Addr
  n : Nat
def KLst (K : PySem.W.Frag) (a : Addr) (xs : List V) : Prop :=
  ∃ (o : Obj) (its : Array Value) (n : Nat), K.lookup a = some o ∧ o.cls = .type "list" ∧ o.dict = none ∧ o.data = .seq its n ∧ its.size ≤ sizeLine ∧ Vals xs its.toList
/-- a list that is known to its object or stands in the written part -/
def ScrAt (K : PySem.W.Frag) (H : Hp) (a : Addr) (vs : List V) : Prop := (∃ o, H a = some (.frz o (.lst vs))) ∨ KLst K a vs
theorem ScrAt.sq {K : PySem.W.Frag} {H : Hp} {a : Addr} {vs : List V} (h : ScrAt K H a vs) : SqL K H a vs := by
  rcases h with ⟨o, h⟩ | h
  · exact .inl (.inr ⟨o, h⟩)
  · exact .inr h
/-- a tuple -/
def TupAt (K : PySem.W.Frag) (H : Hp) (a : Addr) (vs : List V) : Prop := H a = some (.tup vs) ∨
  (∃ (o : Obj) (its : Array Value) (n : Nat), K.lookup a = some o ∧ o.cls = .type "tuple" ∧ o.data = .seq its n ∧ its.size ≤ sizeLine ∧ Vals vs its.toList) ∧ ((∃ v ∈ vs, ∀ i, v ≠ V.int i) ∨ vs = [])
theorem TupAt.sq {K : PySem.W.Frag} {H : Hp} {a : Addr} {vs : List V} (h : TupAt K H a vs) : SqT K H a vs := h.elim (fun h => .inl (.inl h)) fun h => .inr h.1
/-- what does not change: the written part, the module's names -/
structure Kx where
  K : PySem.W.Frag
  mg : Str → Option Value
  /-- the exception that the suite holds -/
  cur : Option (Addr × Obj)
  w : World
abbrev k0 (K : PySem.W.Frag) (mg : Str → Option Value) (w : World) : Kx := ⟨K, mg, none, w⟩
def KTup (K : PySem.W.Frag) (H : Hp) (a : Addr) (vs : List V) : Prop := H a = some (.tup vs) ∨
  ∃ (o : Obj) (its : Array Value) (n : Nat), K.lookup a = some o ∧ o.cls = .type "tuple" ∧ o.data = .seq its n ∧ its.size ≤ sizeLine ∧ Vals vs its.toList
theorem TupAt.k {K : PySem.W.Frag} {H : Hp} {a : Addr} {vs : List V} (h : TupAt K H a vs) : KTup K H a vs := h.elim .inl fun h => .inr h.1
theorem KTup.sq {K : PySem.W.Frag} {H : Hp} {a : Addr} {vs : List V} (h : KTup K H a vs) : SqT K H a vs := h.elim (fun h => .inl (.inl h)) fun h => .inr h
mutual
def KIs (K : PySem.W.Frag) (H : Hp) : NestedKey → V → Prop
  | .none, v => v = .non
  | .num i, v => v = .int i
  | .text x, v => v = .str x
  | .tup ks, v => ∃ a vs, v = .ref a ∧ KTup K H a vs ∧ KIsL K H ks vs
def KIsL (K : PySem.W.Frag) (H : Hp) : List NestedKey → List V → Prop
  | [], vs => vs = []
  | k :: ks, vs => ∃ v r, vs = v :: r ∧ KIs K H k v ∧ KIsL K H ks r
end
mutual
theorem KIs.at {K : PySem.W.Frag} {H H' : Hp} (h : ∀ a xs, H a = some (.tup xs) → H' a = some (.tup xs)) : ∀ (k : NestedKey) (v : V), KIs K H k v → KIs K H' k v
  | .none, _, q => q
  | .num _, _, q => q
  | .text _, _, q => q
  | .tup ks, _, ⟨a, vs, e, t, r⟩ => ⟨a, vs, e, t.elim (fun t => .inl (h _ _ t)) .inr, KIsL.at h ks vs r⟩
theorem KIsL.at {K : PySem.W.Frag} {H H' : Hp} (h : ∀ a xs, H a = some (.tup xs) → H' a = some (.tup xs)) : ∀ (ks : List NestedKey) (vs : List V), KIsL K H ks vs → KIsL K H' ks vs
  | [], _, q => q
  | k :: ks, _, ⟨v, r, e, h1, h2⟩ => ⟨v, r, e, KIs.at h k v h1, KIsL.at h ks r h2⟩
end
/-- an entry: the key, where its tuple stands, the value -/
abbrev NEnt := List (NestedKey × Addr × V)
def nEs (w : World) : NEnt → List Value → List DictEntry
  | [], _ => []
  | _ :: _, [] => []
  | e :: es, u :: us => ⟨e.1.hash w, .ref e.2.1, u⟩ :: nEs w es us
/-- the dict with these entries stands at a -/
def NDx (w : World) (a : Addr) (es : NEnt) : HO := .ext fun h => es.length ≤ sizeLine ∧ (a == sysModules) = false ∧ ∃ (us : List Value) (o : Obj) (des : Array DictEntry) (ep : Nat),
  Vals (es.map (·.2.2)) us ∧ h.get? a = some o ∧ o.ExactDict ∧ o.data = .dict des ep ∧ des.toList = nEs w es us
def NKeys (K : PySem.W.Frag) (H : Hp) (es : NEnt) : Prop := ∀ e ∈ es, KIs K H e.1 (.ref e.2.1) ∧ e.1.depth ≤ 8
theorem NKeys.at {K : PySem.W.Frag} {H H' : Hp} (h : ∀ a xs, H a = some (.tup xs) → H' a = some (.tup xs)) {es : NEnt} (r : NKeys K H es) : NKeys K H' es := fun e he => ⟨KIs.at h _ _ (r e he).1, (r e he).2⟩
section
variable (k : Kx) (H : Hp) (g : G)
mutual
def Rep : D → V → Prop
  | .non, v => v = .non
  | .bl b, v => v = .bl b
  | .int i, v => v = .int i
  | .str x, v => v = .str ⟨x.toArray⟩
  | .tup ds, v => ∃ a vs, v = .ref a ∧ TupAt k.K H a vs ∧ RepL ds vs
  | .lst ds, v => ∃ a vs, v = .ref a ∧ g.F a ∧ H a = some (.lst vs) ∧ RepL ds vs
  | .obj n, v => n < g.n ∧ v = .ref (g.ρ n)
  | .gl x, v => ∃ a, k.mg x = some (.ref a) ∧ v = .ref a
  | .ty n, v => v = .ty n
  | .scr ns, v => ∃ a, v = .ref a ∧ ScrAt k.K H a (ns.map V.int)
  | .edc, v => ∃ a, v = .ref a ∧ g.F a ∧ H a = some (.dK [])
  | .ins c ns ds, v => ∃ a C dx vs, v = .ref a ∧ g.F a ∧ k.mg c = some (.ref C) ∧ H a = some (.ins C dx (ns.zip vs)) ∧ RepL ds vs
def RepL : List D → List V → Prop
  | [], vs => vs = []
  | d :: ds, vs => ∃ v r, vs = v :: r ∧ Rep d v ∧ RepL ds r
end
/-- an object of the store, of a frame -/
def ORep : O → Addr → Prop
  | .lst ds, a => ∃ vs, H a = some (.lst vs) ∧ RepL k H g ds vs
  | .dK kvs, a => ∃ vs, H a = some (.dK ((kvs.map (·.1)).zip vs)) ∧ RepL k H g (kvs.map (·.2)) vs
  | .dT kvs, a => ∃ vs, H a = some (.dT ((kvs.map (·.1)).zip vs)) ∧ RepL k H g (kvs.map (·.2)) vs
  | .ins c ns ds, a => ∃ C dx vs, k.mg c = some (.ref C) ∧ H a = some (.ins C dx (ns.zip vs)) ∧ RepL k H g ds vs
  | .dN kvs, a => ∃ es, H a = some (NDx k.w a es) ∧ es.map (·.1) = kvs.map (·.1) ∧ (kvs.map (·.1)).Nodup ∧ NKeys k.K H es ∧ RepL k H g (kvs.map (·.2)) (es.map (·.2.2))
end
/-- what stands stays -/
structure PExt (H : Hp) (g : G) (H' : Hp) (g' : G) : Prop where
  F : ∀ a, g.F a → g'.F a
  kF : ∀ a o, g.F a → H a = some o → H' a = some o
  kT : ∀ a xs, H a = some (.tup xs) → H' a = some (.tup xs)
  kZ : ∀ a o u, H a = some (.frz o u) → H' a = some (.frz o u)
  n : g.n ≤ g'.n
  ρ : ∀ i, i < g.n → g'.ρ i = g.ρ i
/-- .. and nothing but the store's objects is changed -/
structure Ext (H : Hp) (g : G) (H' : Hp) (g' : G) : Prop extends PExt H g H' g' where
  keep : ∀ a o, H a = some o → (∀ i, i < g.n → g.ρ i ≠ a) → H' a = some o
  newF : ∀ a, g'.F a → g.F a ∨ H a = none
  newρ : ∀ i, g.n ≤ i → i < g'.n → H (g'.ρ i) = none
  tr : ∀ a o, H a = some o → ∃ u, H' a = some u
theorem PExt.refl (H : Hp) (g : G) : PExt H g H g := ⟨fun _ h => h, fun _ _ _ h => h, fun _ _ h => h, fun _ _ _ h => h, Nat.le_refl _, fun _ _ => rfl⟩
theorem PExt.trans {H H1 H2 : Hp} {g g1 g2 : G} (a : PExt H g H1 g1) (b : PExt H1 g1 H2 g2) : PExt H g H2 g2 :=
  ⟨fun x h => b.F x (a.F x h), fun x o f h => b.kF x o (a.F x f) (a.kF x o f h), fun x xs h => b.kT x xs (a.kT x xs h), fun x o u h => b.kZ x o u (a.kZ x o u h), Nat.le_trans a.n b.n,
    fun i h => (b.ρ i (Nat.lt_of_lt_of_le h a.n)).trans (a.ρ i h)⟩
theorem Ext.refl (H : Hp) (g : G) : Ext H g H g := ⟨PExt.refl H g, fun _ _ h _ => h, fun _ h => .inl h, fun i h1 h2 => absurd h2 (Nat.not_lt.mpr h1), fun _ o h => ⟨o, h⟩⟩
theorem Ext.trans {H H1 H2 : Hp} {g g1 g2 : G} (a : Ext H g H1 g1) (b : Ext H1 g1 H2 g2) : Ext H g H2 g2 where
  toPExt := a.toPExt.trans b.toPExt
  keep := fun x o h hn => b.keep x o (a.keep x o h hn) fun i hi e => by
    by_cases h1 : i < g.n
    · exact hn i h1 ((a.ρ i h1).symm.trans e)
    · have z := a.newρ i (Nat.le_of_not_lt h1) hi
      rw [e, h] at z; cases z
  newF := fun x h => by
    rcases b.newF x h with h | h
    · exact a.newF x h
    · cases q : H x with
      | none => exact .inr rfl
      | some o => obtain ⟨u, z⟩ := a.tr x o q; rw [h] at z; cases z
  newρ := fun i h1 h2 => by
    by_cases h3 : i < g1.n
    · rw [b.ρ i h3]; exact a.newρ i h1 h3
    · have z := b.newρ i (Nat.le_of_not_lt h3) h2
      cases q : H (g2.ρ i) with
      | none => rfl
      | some o => obtain ⟨u, y⟩ := a.tr _ o q; rw [z] at y; cases y
  tr := fun x o h => by
    obtain ⟨u, h⟩ := a.tr x o h
    exact b.tr x u h
section
variable {k : Kx} {H H' : Hp} {g g' : G}
theorem tupAt_mono (e : PExt H g H' g') {a : Addr} {vs : List V} (h : TupAt k.K H a vs) : TupAt k.K H' a vs := by
  rcases h with h | h
  · exact .inl (e.kT _ _ h)
  · exact .inr h
theorem scrAt_mono (e : PExt H g H' g') {a : Addr} {vs : List V} (h : ScrAt k.K H a vs) : ScrAt k.K H' a vs := by
  rcases h with ⟨o, h⟩ | h
  · exact .inl ⟨o, e.kZ _ _ _ h⟩
  · exact .inr h
mutual
theorem Rep.mono (e : PExt H g H' g') : ∀ (d : D) (v : V), Rep k H g d v → Rep k H' g' d v
  | .non, _, h => h
  | .bl _, _, h => h
  | .int _, _, h => h
  | .str _, _, h => h
  | .tup ds, _, ⟨a, vs, h1, h2, h3⟩ => ⟨a, vs, h1, tupAt_mono e h2, RepL.mono e ds vs h3⟩
  | .lst ds, _, ⟨a, vs, h1, h2, h3, h4⟩ => ⟨a, vs, h1, e.F _ h2, e.kF _ _ h2 h3, RepL.mono e ds vs h4⟩
  | .obj n, _, ⟨h1, h2⟩ => ⟨Nat.lt_of_lt_of_le h1 e.n, by rw [h2, e.ρ n h1]⟩
  | .gl _, _, h => h
  | .ty _, _, h => h
  | .scr _, _, ⟨a, h1, h2⟩ => ⟨a, h1, scrAt_mono e h2⟩
  | .edc, _, ⟨a, h1, h2, h3⟩ => ⟨a, h1, e.F _ h2, e.kF _ _ h2 h3⟩
  | .ins _ _ ds, _, ⟨a, C, dx, vs, h1, h2, h3, h4, h5⟩ => ⟨a, C, dx, vs, h1, e.F _ h2, h3, e.kF _ _ h2 h4, RepL.mono e ds vs h5⟩
theorem RepL.mono (e : PExt H g H' g') : ∀ (ds : List D) (vs : List V), RepL k H g ds vs → RepL k H' g' ds vs
  | [], _, h => h
  | d :: ds, _, ⟨v, r, h1, h2, h3⟩ => ⟨v, r, h1, Rep.mono e d v h2, RepL.mono e ds r h3⟩
end
mutual
theorem Rep.kc {k k' : Kx} (h1 : k'.K = k.K) (h2 : k'.mg = k.mg) : ∀ (d : D) (v : V), Rep k H g d v → Rep k' H g d v
  | .non, _, h => h
  | .bl _, _, h => h
  | .int _, _, h => h
  | .str _, _, h => h
  | .tup ds, _, ⟨a, vs, e1, e2, e3⟩ => ⟨a, vs, e1, by rw [h1]; exact e2, RepL.kc h1 h2 ds vs e3⟩
  | .lst ds, _, ⟨a, vs, e1, e2, e3, e4⟩ => ⟨a, vs, e1, e2, e3, RepL.kc h1 h2 ds vs e4⟩
  | .obj n, _, h => h
  | .gl _, _, ⟨a, e1, e2⟩ => ⟨a, by rw [h2]; exact e1, e2⟩
  | .ty _, _, h => h
  | .scr _, _, ⟨a, e1, e2⟩ => ⟨a, e1, by rw [h1]; exact e2⟩
  | .edc, _, h => h
  | .ins _ _ ds, _, ⟨a, C, dx, vs, e1, e2, e3, e4, e5⟩ => ⟨a, C, dx, vs, e1, e2, by rw [h2]; exact e3, e4, RepL.kc h1 h2 ds vs e5⟩
theorem RepL.kc {k k' : Kx} (h1 : k'.K = k.K) (h2 : k'.mg = k.mg) : ∀ (ds : List D) (vs : List V), RepL k H g ds vs → RepL k' H g ds vs
  | [], _, h => h
  | d :: ds, _, ⟨v, r, e1, e2, e3⟩ => ⟨v, r, e1, Rep.kc h1 h2 d v e2, RepL.kc h1 h2 ds r e3⟩
end
theorem RepL.nil : RepL k H g [] [] := rfl
theorem RepL.cons {d : D} {ds : List D} {v : V} {vs : List V} (h : Rep k H g d v) (t : RepL k H g ds vs) : RepL k H g (d :: ds) (v :: vs) := ⟨v, vs, rfl, h, t⟩
theorem RepL.length : ∀ {ds : List D} {vs : List V}, RepL k H g ds vs → vs.length = ds.length
  | [], _, h => by cases (show _ = [] from h); rfl
  | _ :: ds, _, ⟨v, r, h1, _, h3⟩ => by rw [h1, List.length_cons, List.length_cons, RepL.length h3]
theorem RepL.get : ∀ {ds : List D} {vs : List V} {i : Nat} {d : D}, RepL k H g ds vs → ds[i]? = some d → ∃ v, vs[i]? = some v ∧ Rep k H g d v
  | [], _, _, _, _, e => by simp at e
  | _ :: _, _, 0, _, ⟨v, r, h1, h2, _⟩, e => by
    simp at e; subst e; subst h1; exact ⟨v, rfl, h2⟩
  | _ :: ds, _, i + 1, d, ⟨v, r, h1, _, h3⟩, e => by
    subst h1
    obtain ⟨u, a, b⟩ := RepL.get (i := i) (d := d) h3 (by simpa using e)
    exact ⟨u, by simpa using a, b⟩
theorem RepL.append : ∀ {ds es : List D} {vs us : List V}, RepL k H g ds vs → RepL k H g es us → RepL k H g (ds ++ es) (vs ++ us)
  | [], _, _, _, h, t => by cases (show _ = [] from h); exact t
  | _ :: _, _, _, _, ⟨v, r, h1, h2, h3⟩, t => by subst h1; exact ⟨v, _, rfl, h2, RepL.append h3 t⟩
theorem RepL.take : ∀ {ds : List D} {vs : List V} (n : Nat), RepL k H g ds vs → RepL k H g (ds.take n) (vs.take n)
  | [], _, _, h => by cases (show _ = [] from h); simp; rfl
  | _ :: _, _, 0, ⟨v, r, h1, h2, h3⟩ => by subst h1; rfl
  | _ :: _, _, n + 1, ⟨v, r, h1, h2, h3⟩ => by subst h1; exact ⟨v, _, rfl, h2, RepL.take n h3⟩
theorem RepL.drop : ∀ {ds : List D} {vs : List V} (n : Nat), RepL k H g ds vs → RepL k H g (ds.drop n) (vs.drop n)
  | [], _, _, h => by cases (show _ = [] from h); simp; rfl
  | _ :: _, _, 0, h => h
  | _ :: _, _, n + 1, ⟨v, r, h1, h2, h3⟩ => by subst h1; exact RepL.drop n h3
theorem RepL.set : ∀ {ds : List D} {vs : List V} {d : D} {v : V} (i : Nat), RepL k H g ds vs → Rep k H g d v → RepL k H g (ds.set i d) (vs.set i v)
  | [], _, _, _, _, h, _ => by cases (show _ = [] from h); rfl
  | _ :: _, _, _, _, 0, ⟨v, r, h1, h2, h3⟩, q => by subst h1; exact ⟨_, _, rfl, q, h3⟩
  | _ :: _, _, _, _, i + 1, ⟨v, r, h1, h2, h3⟩, q => by subst h1; exact ⟨v, _, rfl, h2, RepL.set i h3 q⟩
theorem RepL.reverse {ds : List D} {vs : List V} (h : RepL k H g ds vs) : RepL k H g ds.reverse vs.reverse := by
  induction ds generalizing vs with
  | nil => cases (show _ = [] from h); rfl
  | cons d ds ih =>
    obtain ⟨v, r, rfl, h2, h3⟩ := h
    rw [List.reverse_cons, List.reverse_cons]
    exact (ih h3).append (.cons h2 .nil)
end
/-- the store stands in the heap -/
structure WF (k : Kx) (H : Hp) (g : G) (S : Sto) : Prop where
  len : S.length = g.n
  ob : ∀ (i : Nat) (o : O), S[i]? = some o → ORep k H g o (g.ρ i)
  inj : ∀ i j, i < g.n → j < g.n → g.ρ i = g.ρ j → i = j
  nF : ∀ i, i < g.n → ¬ g.F (g.ρ i)
  tF : ∀ a, g.F a → ∃ o, H a = some o
/-- an exception's class and its own dict -/
def XRep (k : Kx) (H : Hp) (g : G) (x : Exn) (c : Value) (d : Option Addr) : Prop :=
  ∃ C, k.mg x.cls = some (.ref C) ∧ c = .ref C ∧ ∀ f e, x.fs.lookup f = some e → ∃ a fs v, d = some a ∧ g.F a ∧ H a = some (.xd fs) ∧ fs.lookup f = some v ∧ Rep k H g e v
section
variable {k : Kx} {H H' : Hp} {g g' : G}
theorem XRep.mono (e : PExt H g H' g') {x : Exn} {c : Value} {d : Option Addr} (h : XRep k H g x c d) : XRep k H' g' x c d := by
  obtain ⟨C, h1, h2, h3⟩ := h
  refine ⟨C, h1, h2, fun f y q => ?_⟩
  obtain ⟨a, fs, v, e1, e2, e3, e4, e5⟩ := h3 f y q
  exact ⟨a, fs, v, e1, e.F _ e2, e.kF _ _ e2 e3, e4, e5.mono e _ _⟩
theorem XRep.kc {k k' : Kx} (h1 : k'.K = k.K) (h2 : k'.mg = k.mg) {x : Exn} {c : Value} {d : Option Addr} (h : XRep k H g x c d) : XRep k' H g x c d := by
  obtain ⟨C, a1, a2, a3⟩ := h
  refine ⟨C, by rw [h2]; exact a1, a2, fun f y q => ?_⟩
  obtain ⟨a, fs, v, e1, e2, e3, e4, e5⟩ := a3 f y q
  exact ⟨a, fs, v, e1, e2, e3, e4, Rep.kc h1 h2 _ _ e5⟩
theorem ORep.kc {k k' : Kx} (h1 : k'.K = k.K) (h2 : k'.mg = k.mg) (h3 : k'.w = k.w) {o : O} {a : Addr} (h : ORep k H g o a) : ORep k' H g o a := by
  cases o with
  | lst ds => obtain ⟨vs, e1, e2⟩ := h; exact ⟨vs, e1, RepL.kc h1 h2 _ _ e2⟩
  | dK kvs => obtain ⟨vs, e1, e2⟩ := h; exact ⟨vs, e1, RepL.kc h1 h2 _ _ e2⟩
  | dT kvs => obtain ⟨vs, e1, e2⟩ := h; exact ⟨vs, e1, RepL.kc h1 h2 _ _ e2⟩
  | ins c ns ds => obtain ⟨C, dx, vs, e0, e1, e2⟩ := h; exact ⟨C, dx, vs, by rw [h2]; exact e0, e1, RepL.kc h1 h2 _ _ e2⟩
  | dN kvs => obtain ⟨es, e1, e2, e3, e4, e5⟩ := h; exact ⟨es, by rw [h3]; exact e1, e2, e3, by rw [h1]; exact e4, RepL.kc h1 h2 _ _ e5⟩
theorem WF.kc {k k' : Kx} (h1 : k'.K = k.K) (h2 : k'.mg = k.mg) (h3 : k'.w = k.w) {S : Sto} (w : WF k H g S) : WF k' H g S := ⟨w.len, fun i o e => (w.ob i o e).kc h1 h2 h3, w.inj, w.nF, w.tF⟩
end
/-- the slots that hold the caught exception -/
def ExcRel (k : Kx) (σ : L2.St) (L : Ls) (H : Hp) (g : G) : Prop := ∀ (i : Nat) (x : Exn), L[i]? = some (.exc x) → ∃ a oe, k.cur = some (a, oe) ∧ σ[i]? = some (some (.ref a)) ∧ XRep k H g x oe.cls oe.dict
section
variable {k : Kx} {H H' : Hp} {g g' : G} {σ : L2.St} {L : Ls} {i : Nat} {lv : LV}
theorem ExcRel.mono (h : ExcRel k σ L H g) (e : PExt H g H' g') : ExcRel k σ L H' g' := fun i x q => by
  obtain ⟨a, oe, h1, h2, h3⟩ := h i x q
  exact ⟨a, oe, h1, h2, h3.mono e⟩
theorem exc_at {j : Nat} {x : Exn} (hlv : ∀ x, lv ≠ .exc x) (q : (L.set i lv)[j]? = some (.exc x)) : i ≠ j ∧ L[j]? = some (.exc x) := by
  by_cases hj : i = j
  · subst hj
    by_cases hl : i < L.length
    · rw [List.getElem?_set_self hl] at q
      exact absurd (Option.some.inj q) (hlv x)
    · rw [List.getElem?_eq_none (by rw [List.length_set]; omega)] at q; cases q
  · rw [List.getElem?_set_ne hj] at q
    exact ⟨hj, q⟩
theorem ExcRel.set {ov : Option V} (h : ExcRel k σ L H g) (hlv : ∀ x, lv ≠ .exc x) : ExcRel k (σ.set i ov) (L.set i lv) H g := fun j x q => by
  obtain ⟨hj, q⟩ := exc_at hlv q
  rw [List.getElem?_set_ne hj]
  exact h j x q
theorem ExcRel.setL (h : ExcRel k σ L H g) (hlv : ∀ x, lv ≠ .exc x) : ExcRel k σ (L.set i lv) H g := fun j x q => h j x (exc_at hlv q).2
end
/-- an object of the frame's own -/
def OwnAt (k : Kx) (H : Hp) (g : G) (a : Addr) (o : O) : Prop := ORep k H g o a ∧ ¬ g.F a ∧ ∀ i, i < g.n → g.ρ i ≠ a
structure LocRel (k : Kx) (σ : L2.St) (L : Ls) (H : Hp) (g : G) : Prop where
  len : σ.length = L.length
  val : ∀ (i : Nat) (d : D), L[i]? = some (.v d) → ∃ v, σ[i]? = some (some v) ∧ Rep k H g d v
  own : ∀ (i : Nat) (o : O), L[i]? = some (.o o) → ∃ a, σ[i]? = some (some (.ref a)) ∧ OwnAt k H g a o
  sep : ∀ (i j : Nat) (o u : O) (a : Addr), L[i]? = some (.o o) → L[j]? = some (.o u) → σ[i]? = some (some (.ref a)) → σ[j]? = some (some (.ref a)) → i = j
  exc : ExcRel k σ L H g
theorem ORep.tr {k : Kx} {H : Hp} {g : G} {o : O} {a : Addr} (h : ORep k H g o a) : ∃ u, H a = some u := by
  cases o with
  | lst ds => obtain ⟨vs, e, _⟩ := h; exact ⟨_, e⟩
  | dK kvs => obtain ⟨vs, e, _⟩ := h; exact ⟨_, e⟩
  | dT kvs => obtain ⟨vs, e, _⟩ := h; exact ⟨_, e⟩
  | ins c ns ds => obtain ⟨C, dx, vs, _, e, _⟩ := h; exact ⟨_, e⟩
  | dN kvs => obtain ⟨es, e, _⟩ := h; exact ⟨_, e⟩
theorem ORep.mono {k : Kx} {H H' : Hp} {g g' : G} {o : O} {a : Addr} (e : PExt H g H' g') (hk : ∀ o, H a = some o → H' a = some o) (h : ORep k H g o a) : ORep k H' g' o a := by
  cases o with
  | lst ds => obtain ⟨vs, q, r⟩ := h; exact ⟨vs, hk _ q, r.mono e _ _⟩
  | dK kvs => obtain ⟨vs, q, r⟩ := h; exact ⟨vs, hk _ q, r.mono e _ _⟩
  | dT kvs => obtain ⟨vs, q, r⟩ := h; exact ⟨vs, hk _ q, r.mono e _ _⟩
  | ins c ns ds => obtain ⟨C, dx, vs, q0, q, r⟩ := h; exact ⟨C, dx, vs, q0, hk _ q, r.mono e _ _⟩
  | dN kvs => obtain ⟨es, q, e1, e2, e3, r⟩ := h; exact ⟨es, hk _ q, e1, e2, e3.at e.kT, r.mono e _ _⟩
theorem OwnAt.ext {k : Kx} {H H' : Hp} {g g' : G} {o : O} {a : Addr} (e : Ext H g H' g') (h : OwnAt k H g a o) : OwnAt k H' g' a o := by
  obtain ⟨h1, h2, h3⟩ := h
  obtain ⟨u, hu⟩ := h1.tr
  refine ⟨h1.mono e.toPExt fun o q => e.keep a o q h3, fun f => ?_, fun i hi q => ?_⟩
  · rcases e.newF a f with f | f
    · exact h2 f
    · rw [hu] at f; cases f
  · by_cases hi' : i < g.n
    · exact h3 i hi' ((e.ρ i hi').symm.trans q)
    · have z := e.newρ i (Nat.le_of_not_lt hi') hi
      rw [q, hu] at z; cases z
theorem LocRel.ext {k : Kx} {σ : L2.St} {L : Ls} {H H' : Hp} {g g' : G} (r : LocRel k σ L H g) (e : Ext H g H' g') : LocRel k σ L H' g' where
  len := r.len
  val := fun i d h => by
    obtain ⟨v, a, b⟩ := r.val i d h
    exact ⟨v, a, b.mono e.toPExt _ _⟩
  own := fun i o h => by
    obtain ⟨a, h1, h2⟩ := r.own i o h
    exact ⟨a, h1, h2.ext e⟩
  sep := r.sep
  exc := r.exc.mono e.toPExt
def G.frz (g : G) (a : Addr) : G := { g with F := fun b => b = a ∨ g.F b }
def G.push (g : G) (a : Addr) : G := { g with ρ := fun i => if i = g.n then a else g.ρ i, n := g.n + 1 }
section
variable {k : Kx} {H : Hp} {g : G} {S : Sto} {p : Addr} {o : HO}
theorem Ext.new (h : H p = none) : Ext H g (upd H p o) g where
  toPExt := ⟨fun _ h => h, fun a u _ q => by rw [upd_ne (ne_of_none q h)]; exact q, fun a xs q => by rw [upd_ne (ne_of_none q h)]; exact q, fun a u x q => by rw [upd_ne (ne_of_none q h)]; exact q, Nat.le_refl _, fun _ _ => rfl⟩
  keep := fun a u q _ => by rw [upd_ne (ne_of_none q h)]; exact q
  newF := fun _ h => .inl h
  newρ := fun i h1 h2 => absurd h2 (Nat.not_lt.mpr h1)
  tr := fun a u q => ⟨u, by rw [upd_ne (ne_of_none q h)]; exact q⟩
theorem PExt.frz : PExt H g H (g.frz p) := ⟨fun _ h => .inr h, fun _ _ _ h => h, fun _ _ h => h, fun _ _ _ h => h, Nat.le_refl _, fun _ _ => rfl⟩
theorem Ext.newFrz (h : H p = none) : Ext H g (upd H p o) (g.frz p) where
  toPExt := (Ext.new h).toPExt.trans PExt.frz
  keep := (Ext.new h).keep
  newF := fun a f => by
    rcases f with rfl | f
    · exact .inr h
    · exact .inl f
  newρ := fun i h1 h2 => absurd h2 (Nat.not_lt.mpr h1)
  tr := (Ext.new (o := o) (g := g) h).tr
theorem Ext.newPush (h : H p = none) : Ext H g (upd H p o) (g.push p) where
  toPExt := (Ext.new h).toPExt.trans ⟨fun _ h => h, fun _ _ _ h => h, fun _ _ h => h, fun _ _ _ h => h, Nat.le_succ _, fun i hi => if_neg (Nat.ne_of_lt hi)⟩
  keep := (Ext.new (g := g) h).keep
  newF := fun _ f => .inl f
  newρ := fun i h1 h2 => by
    have e : i = g.n := Nat.le_antisymm (Nat.le_of_lt_succ h2) h1
    show H (if i = g.n then p else g.ρ i) = none
    rw [if_pos e]; exact h
  tr := (Ext.new (o := o) (g := g) h).tr
theorem WF.ρt (w : WF k H g S) {i : Nat} (hi : i < g.n) : ∃ o, H (g.ρ i) = some o := by
  obtain ⟨o, e⟩ : ∃ o, S[i]? = some o := ⟨_, List.getElem?_eq_getElem (by rw [w.len]; exact hi)⟩
  exact (w.ob i o e).tr
theorem WF.new (w : WF k H g S) (h : H p = none) : WF k (upd H p o) g S where
  len := w.len
  ob := fun i u e => (w.ob i u e).mono (Ext.new h).toPExt fun o q => by rw [upd_ne (ne_of_none q h)]; exact q
  inj := w.inj
  nF := w.nF
  tF := fun a f => by
    obtain ⟨u, e⟩ := w.tF a f
    exact ⟨u, by rw [upd_ne (ne_of_none e h)]; exact e⟩
theorem WF.newFrz (w : WF k H g S) (h : H p = none) : WF k (upd H p o) (g.frz p) S where
  len := w.len
  ob := fun i u e => ((w.new (o := o) h).ob i u e).mono PExt.frz fun _ q => q
  inj := w.inj
  nF := fun i hi f => by
    rcases f with f | f
    · obtain ⟨u, e⟩ := w.ρt hi
      rw [show g.ρ i = p from f, h] at e; cases e
    · exact w.nF i hi f
  tF := fun a f => by
    rcases f with rfl | f
    · exact ⟨o, upd_same⟩
    · exact (w.new h).tF a f
theorem WF.newPush {ob : O} (w : WF k H g S) (h : H p = none) (r : ORep k (upd H p o) (g.push p) ob p) : WF k (upd H p o) (g.push p) (S ++ [ob]) where
  len := by rw [List.length_append, w.len]; rfl
  ob := fun i u e => by
    by_cases hi : i < g.n
    · rw [List.getElem?_append_left (by rw [w.len]; exact hi)] at e
      show ORep k _ _ u (if i = g.n then p else g.ρ i)
      rw [if_neg (Nat.ne_of_lt hi)]
      exact (w.ob i u e).mono (Ext.newPush h).toPExt fun o q => by rw [upd_ne (ne_of_none q h)]; exact q
    · rw [List.getElem?_append_right (by rw [w.len]; exact Nat.le_of_not_lt hi), w.len] at e
      have e0 : i - g.n = 0 := by
        rcases Nat.eq_zero_or_pos (i - g.n) with z | z
        · exact z
        · rw [List.getElem?_eq_none (by simp only [List.length_singleton]; omega)] at e; cases e
      have ei : i = g.n := by omega
      rw [e0] at e
      cases e
      show ORep k _ _ ob (if i = g.n then p else g.ρ i)
      rw [if_pos ei]
      exact r
  inj := fun i j hi hj e => by
    have e' : (if i = g.n then p else g.ρ i) = (if j = g.n then p else g.ρ j) := e
    by_cases h1 : i = g.n
    · by_cases h2 : j = g.n
      · omega
      · rw [if_pos h1, if_neg h2] at e'
        obtain ⟨u, q⟩ := w.ρt (show j < g.n by have : j < g.n + 1 := hj; omega)
        rw [← e', h] at q; cases q
    · by_cases h2 : j = g.n
      · rw [if_neg h1, if_pos h2] at e'
        obtain ⟨u, q⟩ := w.ρt (show i < g.n by have : i < g.n + 1 := hi; omega)
        rw [e', h] at q; cases q
      · rw [if_neg h1, if_neg h2] at e'
        have h3 : i < g.n + 1 := hi
        have h4 : j < g.n + 1 := hj
        exact w.inj i j (by omega) (by omega) e'
  nF := fun i hi f => by
    have f' : g.F (if i = g.n then p else g.ρ i) := f
    by_cases h1 : i = g.n
    · rw [if_pos h1] at f'
      obtain ⟨u, q⟩ := w.tF _ f'
      rw [h] at q; cases q
    · rw [if_neg h1] at f'
      have h3 : i < g.n + 1 := hi
      exact w.nF i (by omega) f'
  tF := fun a f => (w.new h).tF a f
end
end Rf
set_option Elab.async false
set_option linter.all false
set_option maxRecDepth 100000
namespace Rf
open PySem L2
abbrev kx (X : Cx) : Kx := ⟨X.K, X.mg, if X.calm = true then none else X.pn.head?, X.w⟩
theorem kx_calm {X : Cx} (h : X.calm = true) : kx X = k0 X.K X.mg X.w := by unfold kx; rw [if_pos h]
def Post {α β : Type} (k : Kx) (P : Hp → G → α → β → Prop) (H : Hp) (g : G) (W : Value → Option Addr → Hp → Prop) (r : R α) (Q : β → Hp → Prop) : Prop := match r with
  | .ok a S => ∀ b H' g', Ext H g H' g' → WF k H' g' S → P H' g' a b → Q b H'
  | .ex x S => ∀ c d H' g', Ext H g H' g' → WF k H' g' S → XRep k H' g' x c d → W c d H'
  | .no => False
section
variable {α β α' β' : Type} {k : Kx} {P : Hp → G → α → β → Prop} {P' : Hp → G → α' → β' → Prop} {H H' : Hp} {g g' : G} {W : Value → Option Addr → Hp → Prop} {r : R α} {f : α → Sto → R α'} {Q : β → Hp → Prop} {Q' : β' → Hp → Prop}
theorem Post.from (h : Post k P H g W r Q) (e : Ext H g H' g') : Post k P H' g' W r Q := by
  cases r with
  | ok a S => exact fun b H2 g2 e2 w p => h b H2 g2 (e.trans e2) w p
  | ex x S => exact fun c d H2 g2 e2 w p => h c d H2 g2 (e.trans e2) w p
  | no => exact h
theorem Post.bind (h : Post k P' H g W (r.bind f) Q') (hk : ∀ a S b H' g', Ext H g H' g' → WF k H' g' S → P H' g' a b → Post k P' H' g' W (f a S) Q' → Q b H') : Post k P H g W r Q := by
  cases r with
  | ok a S => exact fun b H2 g2 e w p => hk a S b H2 g2 e w p (Post.from h e)
  | ex x S => exact h
  | no => exact h
theorem Post.kc {d : R D} {Q : V → Hp → Prop} {k k' : Kx} (h1 : k'.K = k.K) (h2 : k'.mg = k.mg) (h3 : k'.w = k.w) (h : Post k (Rep k) H g W d Q) : Post k' (Rep k') H g W d Q := by
  cases d with
  | ok a S => exact fun b H2 g2 e w p => h b H2 g2 e (w.kc h1.symm h2.symm h3.symm) (Rep.kc h1.symm h2.symm _ _ p)
  | ex x S => exact fun c d H2 g2 e w p => h c d H2 g2 e (w.kc h1.symm h2.symm h3.symm) (p.kc h1.symm h2.symm)
  | no => exact h
theorem Post.ret {a : α} {b : β} {S : Sto} (h : Post k P H g W (.ok a S) Q) (w : WF k H g S) (p : P H g a b) : Q b H := h b H g (Ext.refl H g) w p
end
/-- a list in the store by its items -/
@[reducible] def deref (S : Sto) : D → D
  | .obj n => match S[n]? with
    | some (.lst ds) => .lst ds
    | _ => .obj n
  | d => d
/-- what may be looked into: like Rep, but a list need not be one that is never written again -/
def CRep (k : Kx) (H : Hp) (g : G) : D → V → Prop
  | .lst ds, v => ∃ a vs, v = .ref a ∧ H a = some (.lst vs) ∧ RepL k H g ds vs
  | d, v => Rep k H g d v
/-- an operand: a value, or an own object of the frame -/
def PkRep (k : Kx) (σ : L2.St) (L : Ls) (H : Hp) (g : G) (d : D) (v : V) : Prop :=
  Rep k H g d v ∨ ∃ (i : Nat) (ds : List D), L[i]? = some (.o (.lst ds)) ∧ d = .lst ds ∧ σ[i]? = some (some v)
section
variable {k : Kx} {σ : L2.St} {L : Ls} {H H' : Hp} {g g' : G} {S : Sto} {d : D} {v : V}
theorem Rep.c (h : Rep k H g d v) : CRep k H g d v := by
  cases d with
  | lst ds => obtain ⟨a, vs, h1, _, h3, h4⟩ := h; exact ⟨a, vs, h1, h3, h4⟩
  | _ => exact h
theorem PkRep.ext (h : PkRep k σ L H g d v) (e : PExt H g H' g') : PkRep k σ L H' g' d v := by
  rcases h with h | h
  · exact .inl (h.mono e _ _)
  · exact .inr h
theorem PkRep.c (h : PkRep k σ L H g d v) (l : LocRel k σ L H g) (w : WF k H g S) : CRep k H g (deref S d) v := by
  rcases h with h | ⟨i, ds, h1, rfl, h3⟩
  · cases d with
    | obj n =>
      obtain ⟨hn, rfl⟩ := h
      show CRep k H g (match S[n]? with | some (.lst ds) => .lst ds | _ => .obj n) _
      cases q : S[n]? with
      | none => exact ⟨hn, rfl⟩
      | some o =>
        cases o with
        | lst ds =>
          obtain ⟨vs, a, b⟩ := w.ob n _ q
          exact ⟨_, vs, rfl, a, b⟩
        | _ => exact ⟨hn, rfl⟩
    | _ => exact Rep.c h
  · obtain ⟨a, q, ⟨vs, e, r⟩, _⟩ := l.own i _ h1
    rw [h3] at q
    cases q
    exact ⟨a, vs, rfl, e, r⟩
end
section
variable (k : Kx) (W : WX)
def tE (m : EM) : TE := fun σ H Q => ∃ L S g, LocRel k σ L H g ∧ WF k H g S ∧ Post k (Rep k) H g (fun c d => W c d σ) (m L S) Q
def tP (m : EM) : TE := fun σ H Q => ∃ L S g, LocRel k σ L H g ∧ WF k H g S ∧ Post k (PkRep k σ L) H g (fun c d => W c d σ) (m L S) Q
/-- a new list: its items -/
def FRep (H : Hp) (H' : Hp) (g' : G) (ds : List D) (v : V) : Prop := ∃ a, v = .ref a ∧ H a = none ∧ OwnAt k H' g' a (.lst ds)
def tF (m : Ls → Sto → R (List D)) : TE := fun σ H Q => ∃ L S g, LocRel k σ L H g ∧ WF k H g S ∧ Post k (FRep k H) H g (fun c d => W c d σ) (m L S) Q
def tT (m : Ls → Sto → R Bool) : TT := fun σ H Q => ∃ L S g, LocRel k σ L H g ∧ WF k H g S ∧ Post k (fun _ _ (b c : Bool) => c = b) H g (fun c d => W c d σ) (m L S) Q
def PkL (σ : L2.St) (L : Ls) (H : Hp) (g : G) : List D → List V → Prop
  | [], vs => vs = []
  | d :: ds, vs => ∃ v r, vs = v :: r ∧ PkRep k σ L H g d v ∧ PkL σ L H g ds r
def tA (m : Ls → Sto → R (List D)) : TA := fun σ H Q => ∃ L S g, LocRel k σ L H g ∧ WF k H g S ∧ Post k (PkL k σ L) H g (fun c d => W c d σ) (m L S) Q
end
theorem PE.imp {X : Cx} {e : Expr} {t t' : TE} (h : PE X e t) (i : ∀ σ H Q, t' σ H Q → t σ H Q) : PE X e t' := ⟨fun pins s σ H Q I q => h.run pins s σ H Q I (i σ H Q q)⟩
theorem PT.imp {X : Cx} {e : Expr} {t t' : TT} (h : PT X e t) (i : ∀ σ H Q, t' σ H Q → t σ H Q) : PT X e t' := ⟨fun pins s σ H Q I q => h.run pins s σ H Q I (i σ H Q q)⟩
theorem PA.imp {X : Cx} {e : List Expr} {t t' : TA} (h : PA X e t) (i : ∀ σ H Q, t' σ H Q → t σ H Q) : PA X e t' := ⟨fun pos pins s σ H Q I q => h.run pos pins s σ H Q I (i σ H Q q)⟩
abbrev SE (X : Cx) (W : WX) (e : Expr) (m : EM) : Prop := PE X e (tE (kx X) W m)
abbrev SP (X : Cx) (W : WX) (e : Expr) (m : EM) : Prop := PE X e (tP (kx X) W m)
abbrev SF (X : Cx) (W : WX) (e : Expr) (m : Ls → Sto → R (List D)) : Prop := PE X e (tF (kx X) W m)
abbrev ST (X : Cx) (W : WX) (e : Expr) (m : Ls → Sto → R Bool) : Prop := PT X e (tT (kx X) W m)
abbrev SA (X : Cx) (W : WX) (es : List Expr) (m : Ls → Sto → R (List D)) : Prop := PA X es (tA (kx X) W m)
section
variable {X : Cx} {W : WX} {e a b : Expr} {es : List Expr} {m ma mb : EM}
theorem SE.pk (h : SE X W e m) : SP X W e m := PE.imp h fun σ H Q ⟨L, S, g, l, w, p⟩ => ⟨L, S, g, l, w, by
  cases q : m L S with
  | ok d S' => rw [q] at p; exact fun v H' g' e w r => p v H' g' e w (.inl r)
  | ex x S' => rw [q] at p; exact p
  | no => rw [q] at p; exact p⟩
def eVar (i : Nat) : EM := fun L S => match L[i]? with
  | some (.v d) => .ok d S
  | _ => .no
def pVar (i : Nat) : EM := fun L S => match L[i]? with
  | some (.v d) => .ok d S
  | some (.o (.lst ds)) => .ok (.lst ds) S
  | _ => .no
def eC (d : D) : EM := fun _ S => .ok d S
theorem se_var {i : Nat} {x : Str} {pos : Pos} (h : PE X (.Name x pos) (tVar i)) : SE X W (.Name x pos) (eVar i) := PE.imp h fun σ H Q ⟨L, S, g, l, w, p⟩ => by
  unfold eVar at p
  cases q : L[i]? with
  | none => rw [q] at p; exact p.elim
  | some lv =>
    rw [q] at p
    cases lv with
    | v d =>
      obtain ⟨v, e1, r⟩ := l.val i d q
      exact ⟨v, e1, Post.ret p w r⟩
    | _ => exact p.elim
theorem sp_var {i : Nat} {x : Str} {pos : Pos} (h : PE X (.Name x pos) (tVar i)) : SP X W (.Name x pos) (pVar i) := PE.imp h fun σ H Q ⟨L, S, g, l, w, p⟩ => by
  unfold pVar at p
  cases q : L[i]? with
  | none => rw [q] at p; exact p.elim
  | some lv =>
    rw [q] at p
    cases lv with
    | v d =>
      obtain ⟨v, e1, r⟩ := l.val i d q
      exact ⟨v, e1, Post.ret p w (.inl r)⟩
    | o o =>
      cases o with
      | lst ds =>
        obtain ⟨v, e1, r⟩ := l.own i _ q
        exact ⟨_, e1, Post.ret p w (.inr ⟨i, ds, q, rfl, e1⟩)⟩
      | _ => exact p.elim
    | un => exact p.elim
    | exc x => exact p.elim
theorem se_const {d : D} {v : V} (h : PE X e (tC v)) (r : ∀ H g, Rep (kx X) H g d v) : SE X W e (eC d) := PE.imp h fun σ H Q ⟨L, S, g, l, w, p⟩ => Post.ret p w (r H g)
/-- an operation on contents -/
def OpC (X : Cx) (f : Value → Value → Sem Value) (o : D → D → Option D) : Prop :=
  ∀ (d e res : D), o d e = some res → OpR X f (fun x y H Q => ∃ g S, WF (kx X) H g S ∧ CRep (kx X) H g d x ∧ CRep (kx X) H g e y ∧
    ∀ v H' g', Ext H g H' g' → WF (kx X) H' g' S → Rep (kx X) H' g' res v → Q v H')
def lift {α : Type} (o : Option α) (S : Sto) : R α := match o with
  | some a => .ok a S
  | none => .no
def eBin (o : D → D → Option D) (ma mb : EM) : EM := fun L S => (ma L S).bind fun x S1 => (mb L S1).bind fun y S2 => lift (o (deref S2 x) (deref S2 y)) S2
theorem OpR.ex {f : Value → Value → Sem Value} {o : D → D → Option D} (h : OpC X f o) : OpR X f (fun x y H Q => ∃ g S d e res, WF (kx X) H g S ∧ CRep (kx X) H g d x ∧ CRep (kx X) H g e y ∧ o d e = some res ∧
    ∀ v H' g', Ext H g H' g' → WF (kx X) H' g' S → Rep (kx X) H' g' res v → Q v H') := by
  intro pins s σ H x y v u Q I rx ry q
  obtain ⟨g, S, d, e, res, w, c1, c2, q1, q2⟩ := q
  exact h d e res q1 pins s σ H x y v u Q I rx ry ⟨g, S, w, c1, c2, q2⟩
/-- the bind of two operands, for the readings of two expressions -/
theorem two_ops {k : Kx} {o : D → D → Option D} {σ : L2.St} {H : Hp} {Q : VK} {Wf : WX} (h : tE k Wf (eBin o ma mb) σ H Q) :
    tP k Wf ma σ H fun x H1 => tP k Wf mb σ H1 fun y H2 => ∃ g S d e res, WF k H2 g S ∧ CRep k H2 g d x ∧ CRep k H2 g e y ∧ o d e = some res ∧
      ∀ v H' g', Ext H2 g H' g' → WF k H' g' S → Rep k H' g' res v → Q v H' := by
  obtain ⟨L, S, g, l, w, p⟩ := h
  refine ⟨L, S, g, l, w, Post.bind p fun x S1 xv H1 g1 e1 w1 r1 p1 => ?_⟩
  refine ⟨L, S1, g1, l.ext e1, w1, Post.bind p1 fun y S2 yv H2 g2 e2 w2 r2 p2 => ?_⟩
  have l2 := (l.ext e1).ext e2
  cases q : o (deref S2 x) (deref S2 y) with
  | none => rw [q] at p2; exact p2.elim
  | some res =>
    rw [q] at p2
    exact ⟨g2, S2, _, _, res, w2, (r1.ext e2.toPExt).c l2 w2, r2.c l2 w2, q, p2⟩
theorem se_bin {op : Operator} {o : D → D → Option D} {pos : Pos} (h : OpC X (binaryOp op) o) (ha : SP X W a ma) (hb : SP X W b mb) : SE X W (.BinOp a op b pos) (eBin o ma mb) :=
  PE.imp (pe_op (OpR.ex h) ha hb) fun σ H Q q => two_ops q
theorem se_cmp {op : CmpOp} {o : D → D → Option D} {pos : Pos} (h : OpC X (compareOp op) o) (ha : SP X W a ma) (hb : SP X W b mb) (hm : behindInMarks op b = false) : SE X W (.Compare a [op] [b] pos) (eBin o ma mb) :=
  PE.imp (pe_cmpR (OpR.ex h) ha hb hm) fun σ H Q q => two_ops q
/-- a test's answer must be a truth -/
def tOfE (m : EM) : Ls → Sto → R Bool := fun L S => (m L S).bind fun d S1 => match d with
  | .bl b => .ok b S1
  | _ => .no
theorem tt_of {k : Kx} {σ : L2.St} {H : Hp} {Q : Bool → Hp → Prop} {Wf : WX} (h : tT k Wf (tOfE m) σ H Q) : tE k Wf m σ H fun x H' => ∃ c, x = .bl c ∧ Q c H' := by
  obtain ⟨L, S, g, l, w, p⟩ := h
  refine ⟨L, S, g, l, w, Post.bind p fun d S1 v H1 g1 e1 w1 r1 p1 => ?_⟩
  cases d with
  | bl b => exact ⟨b, r1, Post.ret p1 w1 rfl⟩
  | _ => exact p1.elim
theorem st_cmp {op : CmpOp} {o : D → D → Option D} {pos : Pos} (h : OpC X (compareOp op) o) (ha : SP X W a ma) (hb : SP X W b mb) (hm : behindInMarks op b = false) : ST X W (.Compare a [op] [b] pos) (tOfE (eBin o ma mb)) :=
  PT.imp (pt_cmpR (OpR.ex h) ha hb hm) fun σ H Q q => two_ops (tt_of q)
end
end Rf
set_option Elab.async false
set_option linter.all false
set_option maxRecDepth 100000
namespace Rf
open PySem L2
mutual
def toPy : D → Option PyData
  | .non => some .none
  | .bl b => some (.bool b)
  | .int i => some (.int i)
  | .str x => some (.str ⟨x.toArray⟩)
  | .tup ds => (toPyL ds).map .tuple
  | .lst ds => (toPyL ds).map .list
  | _ => none
def toPyL : List D → Option (List PyData)
  | [] => some []
  | d :: ds => match toPy d, toPyL ds with
    | some p, some ps => some (p :: ps)
    | _, _ => none
end
def shp (d : D) : Bool := match toPy d with
  | some p => SeqAt.shaped p
  | none => false
theorem shp_get {d : D} (h : shp d = true) : ∃ p, toPy d = some p ∧ SeqAt.shaped p = true := by
  unfold shp at h
  split at h
  · rename_i p e; exact ⟨p, e, h⟩
  · cases h
mutual
def eqv : D → D → Bool
  | .non, .non => true
  | .bl a, .bl b => a == b
  | .bl a, .int j => (if a then 1 else 0) == j
  | .int i, .bl b => i == (if b then 1 else 0)
  | .int i, .int j => i == j
  | .str x, .str y => x == y
  | .lst xs, .lst ys => eqvL xs ys
  | .tup xs, .tup ys => eqvL xs ys
  | _, _ => false
def eqvL : List D → List D → Bool
  | [], [] => true
  | x :: xs, y :: ys => eqv x y && eqvL xs ys
  | _, _ => false
end
theorem str_beq (x y : List Nat) : ((⟨x.toArray⟩ : Str) == ⟨y.toArray⟩) = (x == y) := by
  rw [Bool.eq_iff_iff, beq_iff_eq, beq_iff_eq]
  constructor
  · intro h
    have := congrArg (fun z : Str => z.cps.toList) h
    simpa using this
  · rintro rfl; rfl
mutual
theorem eqv_py : ∀ (d e : D) (p q : PyData), toPy d = some p → toPy e = some q → PyData.eqv p q = eqv d e
  | .non, e, p, q, h1, h2 => by
    cases h1
    cases e with
    | tup es => simp only [toPy, Option.map_eq_some_iff] at h2; obtain ⟨x, _, rfl⟩ := h2; rfl
    | lst es => simp only [toPy, Option.map_eq_some_iff] at h2; obtain ⟨x, _, rfl⟩ := h2; rfl
    | obj _ => cases h2
    | gl _ => cases h2
    | ty _ => cases h2
    | scr _ => cases h2
    | edc => cases h2
    | ins _ _ _ => cases h2
    | _ => cases h2; rfl
  | .bl b, e, p, q, h1, h2 => by
    cases h1
    cases e with
    | tup es => simp only [toPy, Option.map_eq_some_iff] at h2; obtain ⟨x, _, rfl⟩ := h2; rfl
    | lst es => simp only [toPy, Option.map_eq_some_iff] at h2; obtain ⟨x, _, rfl⟩ := h2; rfl
    | obj _ => cases h2
    | gl _ => cases h2
    | ty _ => cases h2
    | scr _ => cases h2
    | edc => cases h2
    | ins _ _ _ => cases h2
    | _ => cases h2; first | rfl | (simp only [PyData.eqv, eqv])
  | .int b, e, p, q, h1, h2 => by
    cases h1
    cases e with
    | tup es => simp only [toPy, Option.map_eq_some_iff] at h2; obtain ⟨x, _, rfl⟩ := h2; rfl
    | lst es => simp only [toPy, Option.map_eq_some_iff] at h2; obtain ⟨x, _, rfl⟩ := h2; rfl
    | obj _ => cases h2
    | gl _ => cases h2
    | ty _ => cases h2
    | scr _ => cases h2
    | edc => cases h2
    | ins _ _ _ => cases h2
    | _ => cases h2; first | rfl | (simp only [PyData.eqv, eqv])
  | .str b, e, p, q, h1, h2 => by
    cases h1
    cases e with
    | tup es => simp only [toPy, Option.map_eq_some_iff] at h2; obtain ⟨x, _, rfl⟩ := h2; rfl
    | lst es => simp only [toPy, Option.map_eq_some_iff] at h2; obtain ⟨x, _, rfl⟩ := h2; rfl
    | obj _ => cases h2
    | gl _ => cases h2
    | ty _ => cases h2
    | scr _ => cases h2
    | edc => cases h2
    | ins _ _ _ => cases h2
    | str c => cases h2; simp only [PyData.eqv, eqv]; exact str_beq b c
    | _ => cases h2; first | rfl | (simp only [PyData.eqv, eqv])
  | .tup ds, e, p, q, h1, h2 => by
    simp only [toPy, Option.map_eq_some_iff] at h1
    obtain ⟨ps, h1, rfl⟩ := h1
    cases e with
    | tup es =>
      simp only [toPy, Option.map_eq_some_iff] at h2
      obtain ⟨qs, h2, rfl⟩ := h2
      simp only [PyData.eqv, eqv]
      exact eqv_pyL ds es ps qs h1 h2
    | lst es => simp only [toPy, Option.map_eq_some_iff] at h2; obtain ⟨x, _, rfl⟩ := h2; rfl
    | obj _ => cases h2
    | gl _ => cases h2
    | ty _ => cases h2
    | scr _ => cases h2
    | edc => cases h2
    | ins _ _ _ => cases h2
    | _ => cases h2; rfl
  | .lst ds, e, p, q, h1, h2 => by
    simp only [toPy, Option.map_eq_some_iff] at h1
    obtain ⟨ps, h1, rfl⟩ := h1
    cases e with
    | lst es =>
      simp only [toPy, Option.map_eq_some_iff] at h2
      obtain ⟨qs, h2, rfl⟩ := h2
      simp only [PyData.eqv, eqv]
      exact eqv_pyL ds es ps qs h1 h2
    | tup es => simp only [toPy, Option.map_eq_some_iff] at h2; obtain ⟨x, _, rfl⟩ := h2; rfl
    | obj _ => cases h2
    | gl _ => cases h2
    | ty _ => cases h2
    | scr _ => cases h2
    | edc => cases h2
    | ins _ _ _ => cases h2
    | _ => cases h2; rfl
theorem eqv_pyL : ∀ (ds es : List D) (ps qs : List PyData), toPyL ds = some ps → toPyL es = some qs → PyData.eqvAll ps qs = eqvL ds es
  | [], [], ps, qs, h1, h2 => by cases h1; cases h2; rfl
  | [], e :: es, ps, qs, h1, h2 => by
    cases h1
    simp only [toPyL] at h2
    split at h2
    · cases h2; rfl
    · cases h2
  | d :: ds, [], ps, qs, h1, h2 => by
    cases h2
    simp only [toPyL] at h1
    split at h1
    · cases h1; rfl
    · cases h1
  | d :: ds, e :: es, ps, qs, h1, h2 => by
    simp only [toPyL] at h1 h2
    split at h1
    · rename_i p ps' a1 a2
      cases h1
      split at h2
      · rename_i q qs' b1 b2
        cases h2
        simp only [PyData.eqvAll, eqvL]
        rw [eqv_py d e p q a1 b1, eqv_pyL ds es ps' qs' a2 b2]
      · cases h2
    · cases h1
end
section
variable {k : Kx} {H : Hp} {g : G}
mutual
theorem Rep.dp : ∀ (d : D) (v : V) (p : PyData), Rep k H g d v → toPy d = some p → Dp k.K H v p
  | .non, v, p, h, e => by cases (show v = .non from h); cases e; exact .non
  | .bl b, v, p, h, e => by cases (show v = .bl b from h); cases e; exact .bl b
  | .int i, v, p, h, e => by cases (show v = .int i from h); cases e; exact .int i
  | .str x, v, p, h, e => by cases (show v = .str ⟨x.toArray⟩ from h); cases e; exact .str _
  | .tup ds, v, p, ⟨a, vs, h1, h2, h3⟩, e => by
    simp only [toPy, Option.map_eq_some_iff] at e
    obtain ⟨ps, e, rfl⟩ := e
    subst h1
    exact .tup h2.sq (RepL.dp ds vs ps h3 e)
  | .lst ds, v, p, ⟨a, vs, h1, _, h2, h3⟩, e => by
    simp only [toPy, Option.map_eq_some_iff] at e
    obtain ⟨ps, e, rfl⟩ := e
    subst h1
    exact .lst (SqL.of h2) (RepL.dp ds vs ps h3 e)
  | .obj _, _, _, _, e => by cases e
  | .gl _, _, _, _, e => by cases e
  | .ty _, _, _, _, e => by cases e
  | .scr _, _, _, _, e => by cases e
theorem RepL.dp : ∀ (ds : List D) (vs : List V) (ps : List PyData), RepL k H g ds vs → toPyL ds = some ps → DpAll k.K H vs ps
  | [], vs, ps, h, e => by cases (show vs = [] from h); cases e; exact .nil
  | d :: ds, vs, ps, ⟨v, r, h1, h2, h3⟩, e => by
    simp only [toPyL] at e
    split at e
    · rename_i p ps' a1 a2
      cases e
      subst h1
      exact .cons (Rep.dp d v p h2 a1) (RepL.dp ds r ps' h3 a2)
    · cases e
end
theorem CRep.dp {d : D} {v : V} {p : PyData} (h : CRep k H g d v) (e : toPy d = some p) : Dp k.K H v p := by
  cases d with
  | lst ds =>
    obtain ⟨a, vs, h1, h2, h3⟩ := h
    simp only [toPy, Option.map_eq_some_iff] at e
    obtain ⟨ps, e, rfl⟩ := e
    subst h1
    exact .lst (SqL.of h2) (RepL.dp ds vs ps h3 e)
  | _ => exact Rep.dp _ v p h e
end
/-- two flat values -/
def flatEq : D → D → Option Bool
  | .non, .non => some true
  | .non, .int _ => some false | .int _, .non => some false | .non, .bl _ => some false | .bl _, .non => some false
  | .non, .str _ => some false | .str _, .non => some false
  | .int a, .int b => some (a == b)
  | .bl a, .bl b => some (a == b)
  | .str a, .str b => some (a == b)
  | .int _, .str _ => some false | .str _, .int _ => some false | .bl _, .str _ => some false | .str _, .bl _ => some false
  | _, _ => none
def eqB (d e : D) : Option Bool := match flatEq d e with
  | some b => some b
  | none => if shp d && shp e then some (eqv d e) else none
/-- a tuple and the empty one -/
def nilEq : D → D → Option Bool
  | .tup ds, .tup [] => some ds.isEmpty
  | _, _ => none
def cEq (d e : D) : Option D := ((eqB d e).or (nilEq d e)).map .bl
def cNe (d e : D) : Option D := (eqB d e).map fun b => .bl (!b)
section
variable {X : Cx} {g : G} {S : Sto} {H : Hp} {d e res : D} {Q : VK}
/-- an answer without a new object -/
theorem scalar_fin {v : V} (q : ∀ v H' g', Ext H g H' g' → WF (kx X) H' g' S → Rep (kx X) H' g' res v → Q v H') (w : WF (kx X) H g S) (r : Rep (kx X) H g res v) : Q v H := q v H g (Ext.refl H g) w r
theorem tup_fin {ds : List D} {vs : List V} {p : Addr} (q : ∀ v H' g', Ext H g H' g' → WF (kx X) H' g' S → Rep (kx X) H' g' (.tup ds) v → Q v H') (w : WF (kx X) H g S) (r : RepL (kx X) H g ds vs) (hp : H p = none) : Q (.ref p) (upd H p (.tup vs)) :=
  q _ _ g (Ext.new hp) (w.new hp) ⟨p, vs, rfl, .inl upd_same, r.mono (Ext.new hp).toPExt _ _⟩
theorem lst_fin {ds : List D} {vs : List V} {p : Addr} (q : ∀ v H' g', Ext H g H' g' → WF (kx X) H' g' S → Rep (kx X) H' g' (.lst ds) v → Q v H') (w : WF (kx X) H g S) (r : RepL (kx X) H g ds vs) (hp : H p = none) : Q (.ref p) (upd H p (.lst vs)) :=
  q _ _ (g.frz p) (Ext.newFrz hp) (w.newFrz hp) ⟨p, vs, rfl, .inl rfl, upd_same, r.mono (Ext.newFrz hp).toPExt _ _⟩
end
theorem flatEq_v {k : Kx} {H : Hp} {g : G} {d e : D} {x y : V} {b : Bool} (h : flatEq d e = some b) (c1 : CRep k H g d x) (c2 : CRep k H g e y) : scal x y = true ∧ decide (x = y) = b := by
  unfold flatEq at h
  split at h <;> first
    | (cases h; done)
    | (cases h
       simp only [CRep, Rep] at c1 c2
       subst c1 c2
       refine ⟨rfl, ?_⟩
       first
        | decide
        | (rw [Bool.eq_iff_iff]; simp)
        | simp)
theorem cEq_ok {X : Cx} (hu : X.A.units + 64 < cLine) : OpC X (compareOp .Eq) cEq := by
  rintro d e res h pins s σ H x y v u Q I rx ry ⟨g, S, w, c1, c2, q⟩
  unfold cEq at h
  cases z : eqB d e with
  | some b =>
    rw [z] at h
    unfold eqB at z
    split at z
    · rename_i b hb
      cases z
      cases h
      obtain ⟨h1, h2⟩ := flatEq_v hb c1 c2
      exact op_eq pins s σ H x y v u Q I rx ry ⟨h1, scalar_fin q w (by rw [h2] <;> rfl)⟩
    · split at z
      · rename_i hs
        cases z
        cases h
        obtain ⟨h1, h2⟩ := Bool.and_eq_true_iff.mp hs
        obtain ⟨p, e1, s1⟩ := shp_get h1
        obtain ⟨p2, e2, s2⟩ := shp_get h2
        exact op_eqD hu pins s σ H x y v u Q I rx ry ⟨p, p2, c1.dp e1, c2.dp e2, s1, s2, scalar_fin q w (by rw [eqv_py d e p p2 e1 e2] <;> rfl)⟩
      · cases z
  | none =>
    rw [z] at h
    unfold nilEq at h
    split at h
    · rename_i ds
      cases h
      obtain ⟨a, vs, rfl, ha, ra⟩ := c1
      obtain ⟨b, us, rfl, hb, rb⟩ := c2
      cases (show us = [] from rb)
      cases (show v = Value.ref a from rx)
      cases (show u = Value.ref b from ry)
      obtain ⟨its, rv, hl, _⟩ := I.tuple ha.sq
      obtain ⟨its2, rv2, hl2, _⟩ := I.tuple hb.sq
      cases rv2
      have R := SeqAt.RcAt.tuples (A := X.A) (e := fun _ => true) hl hl2 (by omega) (fun j h1 h2 => absurd h2 (by simp))
      refine R X.prog X.w _ _ ?_
      have e : ((List.range (min its.toArray.size (#[] : Array Value).size)).all (fun _ => true) && its.toArray.size == (#[] : Array Value).size) = ds.isEmpty := by
        have hle : its.length = ds.length := by rw [← rv.length, ra.length]
        cases ds with
        | nil => 
          have : its = [] := List.length_eq_zero_iff.mp hle
          subst this; rfl
        | cons d ds =>
          cases its with
          | nil => cases hle
          | cons x its => simp
      rw [e]
      exact ⟨.bl _, H, I, rfl, scalar_fin q w rfl⟩
    · cases h
theorem cNe_ok {X : Cx} (hu : X.A.units + 64 < cLine) : OpC X (compareOp .NotEq) cNe := by
  rintro d e res h pins s σ H x y v u Q I rx ry ⟨g, S, w, c1, c2, q⟩
  unfold cNe eqB at h
  split at h
  · rename_i b hb
    cases h
    obtain ⟨h1, h2⟩ := flatEq_v hb c1 c2
    exact op_ne pins s σ H x y v u Q I rx ry ⟨h1, scalar_fin q w (by rw [h2] <;> rfl)⟩
  · split at h
    · rename_i hs
      cases h
      obtain ⟨h1, h2⟩ := Bool.and_eq_true_iff.mp hs
      obtain ⟨p, e1, s1⟩ := shp_get h1
      obtain ⟨p2, e2, s2⟩ := shp_get h2
      exact op_neD hu pins s σ H x y v u Q I rx ry ⟨p, p2, c1.dp e1, c2.dp e2, s1, s2, scalar_fin q w (by rw [eqv_py d e p p2 e1 e2] <;> rfl)⟩
    · cases h
def cLt : D → D → Option D
  | .int a, .int b => some (.bl (decide (a < b)))
  | .str a, .str b => some (.bl (decide (a < b)))
  | _, _ => none
def cLe : D → D → Option D
  | .int a, .int b => some (.bl (decide (a ≤ b)))
  | .str a, .str b => some (.bl (!decide (b < a)))
  | _, _ => none
def cGt : D → D → Option D
  | .int a, .int b => some (.bl (decide (b < a)))
  | .str a, .str b => some (.bl (decide (b < a)))
  | _, _ => none
def cGe : D → D → Option D
  | .int a, .int b => some (.bl (decide (b ≤ a)))
  | .str a, .str b => some (.bl (!decide (a < b)))
  | _, _ => none
section
variable {X : Cx}
theorem cLt_ok : OpC X (compareOp .Lt) cLt := by
  rintro d e res h pins s σ H x y v u Q I rx ry ⟨g, S, w, c1, c2, q⟩
  unfold cLt at h
  split at h
  · cases h; cases c1; cases c2
    exact op_lt pins s σ H _ _ v u Q I rx ry ⟨_, _, rfl, rfl, scalar_fin q w rfl⟩
  · cases h; cases c1; cases c2
    exact op_lt_str pins s σ H _ _ v u Q I rx ry ⟨_, _, rfl, rfl, scalar_fin q w rfl⟩
  · cases h
theorem cGt_ok : OpC X (compareOp .Gt) cGt := by
  rintro d e res h pins s σ H x y v u Q I rx ry ⟨g, S, w, c1, c2, q⟩
  unfold cGt at h
  split at h
  · cases h; cases c1; cases c2
    exact op_gt pins s σ H _ _ v u Q I rx ry ⟨_, _, rfl, rfl, scalar_fin q w rfl⟩
  · cases h; cases c1; cases c2
    exact op_gt_str pins s σ H _ _ v u Q I rx ry ⟨_, _, rfl, rfl, scalar_fin q w rfl⟩
  · cases h
theorem cGe_ok : OpC X (compareOp .GtE) cGe := by
  rintro d e res h pins s σ H x y v u Q I rx ry ⟨g, S, w, c1, c2, q⟩
  unfold cGe at h
  split at h
  · cases h; cases c1; cases c2
    exact op_ge pins s σ H _ _ v u Q I rx ry ⟨_, _, rfl, rfl, scalar_fin q w rfl⟩
  · cases h; cases c1; cases c2
    exact op_ge_str pins s σ H _ _ v u Q I rx ry ⟨_, _, rfl, rfl, scalar_fin q w rfl⟩
  · cases h
end
section
variable {X : Cx}
def isNon : D → Bool
  | .non => true
  | _ => false
theorem isNon_v {k : Kx} {H : Hp} {g : G} {d : D} {v : V} (c : CRep k H g d v) : decide (v = V.non) = isNon d := by
  cases d with
  | non => cases c; rfl
  | bl b => cases c; rfl
  | int b => cases c; rfl
  | str b => cases c; rfl
  | tup ds => obtain ⟨a, vs, rfl, _⟩ := c; rfl
  | lst ds => obtain ⟨a, vs, rfl, _⟩ := c; rfl
  | obj n => obtain ⟨_, rfl⟩ := c; rfl
  | gl x => obtain ⟨a, _, rfl⟩ := c; rfl
  | ty n => cases c; rfl
  | scr n => obtain ⟨a, rfl, _⟩ := c; rfl
  | edc => obtain ⟨a, rfl, _⟩ := c; rfl
  | ins _ _ _ => obtain ⟨a, _, _, _, rfl, _⟩ := c; rfl
def cIs : D → D → Option D
  | d, .non => some (.bl (isNon d))
  | .bl a, .bl b => some (.bl (a == b))
  | _, _ => none
def cIsNot : D → D → Option D
  | d, .non => some (.bl (!isNon d))
  | .bl a, .bl b => some (.bl (!(a == b)))
  | _, _ => none
theorem dec_beq (a b : Bool) : decide (a = b) = (a == b) := by cases a <;> cases b <;> rfl
theorem cIs_ok : OpC X (compareOp .Is) cIs := by
  rintro d e res h pins s σ H x y v u Q I rx ry ⟨g, S, w, c1, c2, q⟩
  unfold cIs at h
  split at h
  · cases h; cases c2
    exact op_isN pins s σ H _ _ v u Q I rx ry ⟨rfl, scalar_fin q w (by rw [isNon_v c1] <;> rfl)⟩
  · cases h; cases c1; cases c2
    exact op_isBl pins s σ H _ _ v u Q I rx ry ⟨_, _, rfl, rfl, scalar_fin q w (by rw [dec_beq] <;> rfl)⟩
  · cases h
theorem cIsNot_ok : OpC X (compareOp .IsNot) cIsNot := by
  rintro d e res h pins s σ H x y v u Q I rx ry ⟨g, S, w, c1, c2, q⟩
  unfold cIsNot at h
  split at h
  · cases h; cases c2
    exact op_notN pins s σ H _ _ v u Q I rx ry ⟨rfl, scalar_fin q w (by rw [isNon_v c1] <;> rfl)⟩
  · cases h; cases c1; cases c2
    exact op_notBl pins s σ H _ _ v u Q I rx ry ⟨_, _, rfl, rfl, scalar_fin q w (by rw [dec_beq] <;> rfl)⟩
  · cases h
end
def oAdd : D → D → Option D
  | .int a, .int b => some (.int (a + b))
  | .str a, .str b => if a.length + b.length ≤ sizeLine then some (.str (a ++ b)) else none
  | .tup a, .tup b => if a.length + b.length ≤ sizeLine then some (.tup (a ++ b)) else none
  | .lst a, .lst b => if a.length + b.length ≤ sizeLine then some (.lst (a ++ b)) else none
  | _, _ => none
def oSub : D → D → Option D
  | .int a, .int b => some (.int (a - b))
  | _, _ => none
def oMul : D → D → Option D
  | .int a, .int b => if a.natAbs.log2 + b.natAbs.log2 < 1000000 then some (.int (a * b)) else none
  | .lst a, .int b => if -(2 ^ 63) ≤ b ∧ b < 2 ^ 63 ∧ a.length * b.toNat ≤ sizeLine then some (.lst (List.replicate b.toNat a).flatten) else none
  | .tup a, .int b => if a ≠ [] ∧ 2 ≤ b ∧ b ≤ 1000 ∧ a.length ≤ 1000 then some (.tup (List.replicate b.toNat a).flatten) else none
  | _, _ => none
def oFdiv : D → D → Option D
  | .int a, .int b => if 0 < b ∧ b.natAbs.log2 < 9000 then some (.int (a / b)) else none
  | _, _ => none
def oMod : D → D → Option D
  | .int a, .int b => if 0 < b then some (.int (a % b)) else none
  | _, _ => none
def oPow : D → D → Option D
  | .int a, .int b => if 0 ≤ b ∧ b ≤ 1000000 ∧ a.natAbs < 2 ^ 64 then some (.int (a ^ b.toNat)) else none
  | _, _ => none
theorem RepL.rep {k : Kx} {H : Hp} {g : G} {ds : List D} {vs : List V} (h : RepL k H g ds vs) : ∀ n : Nat, RepL k H g (List.replicate n ds).flatten (List.replicate n vs).flatten
  | 0 => rfl
  | n + 1 => by
    rw [List.replicate_succ, List.replicate_succ, List.flatten_cons, List.flatten_cons]
    exact h.append (RepL.rep h n)
theorem mk_app (a b : List Nat) : ((⟨a.toArray⟩ : Str) ++ ⟨b.toArray⟩) = ⟨(a ++ b).toArray⟩ := by
  show Str.append _ _ = _
  unfold Str.append
  simp
theorem mk_len (a : List Nat) : (⟨a.toArray⟩ : Str).length = a.length := by unfold Str.length; simp
section
variable {X : Cx}
theorem oAdd_ok : OpC X (binaryOp .Add) oAdd := by
  rintro d e res h pins s σ H x y v u Q I rx ry ⟨g, S, w, c1, c2, q⟩
  unfold oAdd at h
  split at h
  · cases h; cases c1; cases c2
    exact op_add pins s σ H _ _ v u Q I rx ry ⟨_, _, rfl, rfl, scalar_fin q w rfl⟩
  · split at h
    · rename_i a b hz
      cases h; cases c1; cases c2
      exact op_add_str pins s σ H _ _ v u Q I rx ry ⟨_, _, rfl, rfl, by rw [mk_len, mk_len]; exact hz, scalar_fin q w (by rw [mk_app] <;> rfl)⟩
    · cases h
  · split at h
    · rename_i a b hz
      cases h
      obtain ⟨p, vs, rfl, hp, r1⟩ := c1
      obtain ⟨p2, us, rfl, hp2, r2⟩ := c2
      refine op_catA pins s σ H _ _ v u Q I rx ry ⟨p, p2, vs, us, rfl, rfl, hp.sq, hp2.sq, by rw [r1.length, r2.length]; exact hz, fun e => ?_, fun e e2 => ?_, fun e e2 p' hp' => tup_fin q w (r1.append r2) hp'⟩
      · subst e
        have e : a = [] := List.eq_nil_of_length_eq_zero r1.length.symm
        subst e
        exact scalar_fin q w ⟨p2, us, rfl, hp2, r2⟩
      · subst e2
        have e : b = [] := List.eq_nil_of_length_eq_zero r2.length.symm
        subst e
        exact scalar_fin q w ⟨p, vs, rfl, hp, by rw [List.append_nil]; exact r1⟩
    · cases h
  · split at h
    · rename_i a b hz
      cases h
      obtain ⟨p, vs, rfl, hp, r1⟩ := c1
      obtain ⟨p2, us, rfl, hp2, r2⟩ := c2
      exact op_cat pins s σ H _ _ v u Q I rx ry ⟨p, p2, vs, us, rfl, rfl, hp, hp2, by rw [r1.length, r2.length]; exact hz, fun p' hp' => lst_fin q w (r1.append r2) hp'⟩
    · cases h
  · cases h
theorem oSub_ok : OpC X (binaryOp .Sub) oSub := by
  rintro d e res h pins s σ H x y v u Q I rx ry ⟨g, S, w, c1, c2, q⟩
  unfold oSub at h
  split at h
  · cases h; cases c1; cases c2
    exact op_sub pins s σ H _ _ v u Q I rx ry ⟨_, _, rfl, rfl, scalar_fin q w rfl⟩
  · cases h
theorem oMul_ok : OpC X (binaryOp .Mult) oMul := by
  rintro d e res h pins s σ H x y v u Q I rx ry ⟨g, S, w, c1, c2, q⟩
  unfold oMul at h
  split at h
  · split at h
    · rename_i a b hz
      cases h; cases c1; cases c2
      exact op_mulW pins s σ H _ _ v u Q I rx ry ⟨_, _, rfl, rfl, hz, scalar_fin q w rfl⟩
    · cases h
  · split at h
    · rename_i a b hz
      cases h; cases c2
      obtain ⟨p, vs, rfl, hp, r1⟩ := c1
      exact op_rep pins s σ H _ _ v u Q I rx ry ⟨p, b, vs, rfl, rfl, hp, hz.1, hz.2.1, by rw [r1.length]; exact hz.2.2, fun p' hp' => lst_fin q w (r1.rep _) hp'⟩
    · cases h
  · split at h
    · rename_i a b hz
      cases h; cases c2
      obtain ⟨p, vs, rfl, hp, r1⟩ := c1
      exact op_repT pins s σ H _ _ v u Q I rx ry ⟨p, b, vs, rfl, rfl, hp.sq, fun e => hz.1 (by subst e; exact List.eq_nil_of_length_eq_zero r1.length.symm), hz.2.1, hz.2.2.1, by rw [r1.length]; exact hz.2.2.2, fun p' hp' => tup_fin q w (r1.rep _) hp'⟩
    · cases h
  · cases h
theorem oFdiv_ok : OpC X (binaryOp .FloorDiv) oFdiv := by
  rintro d e res h pins s σ H x y v u Q I rx ry ⟨g, S, w, c1, c2, q⟩
  unfold oFdiv at h
  split at h
  · split at h
    · rename_i a b hz
      cases h; cases c1; cases c2
      exact op_fdivW pins s σ H _ _ v u Q I rx ry ⟨_, _, rfl, rfl, hz, scalar_fin q w rfl⟩
    · cases h
  · cases h
theorem oMod_ok : OpC X (binaryOp .Mod) oMod := by
  rintro d e res h pins s σ H x y v u Q I rx ry ⟨g, S, w, c1, c2, q⟩
  unfold oMod at h
  split at h
  · split at h
    · rename_i a b hz
      cases h; cases c1; cases c2
      exact op_mod pins s σ H _ _ v u Q I rx ry ⟨_, _, rfl, rfl, hz, scalar_fin q w rfl⟩
    · cases h
  · cases h
theorem oPow_ok : OpC X (binaryOp .Pow) oPow := by
  rintro d e res h pins s σ H x y v u Q I rx ry ⟨g, S, w, c1, c2, q⟩
  unfold oPow at h
  split at h
  · split at h
    · rename_i a b hz
      cases h; cases c1; cases c2
      exact op_pow pins s σ H _ _ v u Q I rx ry ⟨_, _, rfl, rfl, hz, scalar_fin q w rfl⟩
    · cases h
  · cases h
end
end Rf
set_option Elab.async false
set_option linter.all false
set_option maxRecDepth 100000
namespace Rf
open PySem L2
def noStar : Expr → Bool
  | .Starred .. => false
  | _ => true
theorem star_cons {e : Expr} {es : List Expr} {env : Env} (h : noStar e = true) : starEach (e :: es) env = (false, eval e env) :: starEach es env := by
  cases e <;> first | rfl | cases h
theorem star_any {pos : Pos} {env : Env} : ∀ {es : List Expr}, es.all noStar = true → (backTo pos (starEach es env)).any (·.1) = false
  | [], _ => rfl
  | e :: es, h => by
    rw [List.all_cons, Bool.and_eq_true] at h
    rw [star_cons h.1]
    show (false || (backTo pos (starEach es env)).any (·.1)) = false
    rw [star_any h.2] <;> rfl
def plainTest : Expr → Bool
  | .UnaryOp .Not _ _ => false
  | .BoolOp .. => false
  | .IfExp .. => false
  | .Compare .. => false
  | _ => true
theorem plain_true {e : Expr} {env : Env} (h : plainTest e = true) (whole : Sem Value) : isTrue e env whole = (do let v ← whole; standAt e.pos; holding [v] (truthy v)) := by
  cases e with
  | UnaryOp op a pos => cases op <;> first | rfl | cases h
  | BoolOp => cases h
  | IfExp => cases h
  | Compare => cases h
  | _ => rfl
def notSlice : Expr → Bool
  | .Slice .. => false
  | _ => true
theorem not_slice {b : Expr} (h : notSlice b = true) (o i : Value) : subscripted b false o i = operate [o, i] (getItem o i) := by
  cases b <;> first | rfl | cases h
def notSuper : Expr → Bool
  | .Call (.Name id _) [] [] _ => !(id == ("super" : Str))
  | _ => true
theorem not_super {o : Expr} {f : Str} {env : Env} (h : notSuper o = true) : attributeBase o f env (eval o env) = eval o env := by
  unfold attributeBase
  split
  · rename_i id p1 p2
    have h' : (!(id == ("super" : Str))) = true := h
    have h2 : (id != ("super" : Str)) = true := h'
    simp only [h2, Bool.true_or, if_true]
  · rfl
def notMark : Expr → Bool
  | .Set .. => false
  | _ => true
def notComp : Expr → Bool
  | .ListComp .. => false
  | .SetComp .. => false
  | .DictComp .. => false
  | _ => true
section
variable {X : Cx} {W : WX} {e a b c : Expr} {es : List Expr} {m ma mb mc : EM}
def aNil : Ls → Sto → R (List D) := fun _ S => .ok [] S
def aCons (m : EM) (r : Ls → Sto → R (List D)) : Ls → Sto → R (List D) := fun L S => (m L S).bind fun d S1 => (r L S1).bind fun ds S2 => .ok (d :: ds) S2
theorem PkL.ext {k : Kx} {σ : L2.St} {L : Ls} {H H' : Hp} {g g' : G} (e : PExt H g H' g') : ∀ {ds : List D} {vs : List V}, PkL k σ L H g ds vs → PkL k σ L H' g' ds vs
  | [], _, h => h
  | _ :: _, _, ⟨v, r, h1, h2, h3⟩ => ⟨v, r, h1, h2.ext e, PkL.ext e h3⟩
theorem sa_nil : SA X W [] aNil := PA.imp pa_nil fun σ H Q ⟨L, S, g, l, w, p⟩ => Post.ret p w rfl
theorem sa_cons {mr : Ls → Sto → R (List D)} (ha : SP X W e m) (hr : SA X W es mr) (hs : noStar e = true) : SA X W (e :: es) (aCons m mr) :=
  PA.imp (pa_cons ha hr (star_cons hs)) fun σ H Q ⟨L, S, g, l, w, p⟩ => ⟨L, S, g, l, w, Post.bind p fun d S1 v H1 g1 e1 w1 r1 p1 =>
    ⟨L, S1, g1, l.ext e1, w1, Post.bind p1 fun ds S2 vs H2 g2 e2 w2 r2 p2 => Post.ret p2 w2 ⟨v, vs, rfl, r1.ext e2.toPExt, r2⟩⟩⟩
/-- arguments that are kept (values alone) -/
def tAE (k : Kx) (W : WX) (m : Ls → Sto → R (List D)) : TA := fun σ H Q => ∃ L S g, LocRel k σ L H g ∧ WF k H g S ∧ Post k (RepL k) H g (fun c d => W c d σ) (m L S) Q
abbrev SAE (X : Cx) (W : WX) (es : List Expr) (m : Ls → Sto → R (List D)) : Prop := PA X es (tAE (kx X) W m)
theorem sae_nil : SAE X W [] aNil := PA.imp pa_nil fun σ H Q ⟨L, S, g, l, w, p⟩ => Post.ret p w rfl
theorem sae_cons {mr : Ls → Sto → R (List D)} (ha : SE X W e m) (hr : SAE X W es mr) (hs : noStar e = true) : SAE X W (e :: es) (aCons m mr) :=
  PA.imp (pa_cons ha hr (star_cons hs)) fun σ H Q ⟨L, S, g, l, w, p⟩ => ⟨L, S, g, l, w, Post.bind p fun d S1 v H1 g1 e1 w1 r1 p1 =>
    ⟨L, S1, g1, l.ext e1, w1, Post.bind p1 fun ds S2 vs H2 g2 e2 w2 r2 p2 => Post.ret p2 w2 ⟨v, vs, rfl, r1.mono e2.toPExt _ _, r2⟩⟩⟩
def eTup (m : Ls → Sto → R (List D)) : EM := fun L S => (m L S).bind fun ds S1 => if ds.length ≤ sizeLine then .ok (.tup ds) S1 else .no
theorem se_tup {x1 : Nat} {pos : Pos} {mr : Ls → Sto → R (List D)} (h : SAE X W es mr) : SE X W (.Tuple es x1 pos) (eTup mr) :=
  PE.imp (pe_tup h) fun σ H Q ⟨L, S, g, l, w, p⟩ => ⟨L, S, g, l, w, Post.bind p fun ds S1 vs H1 g1 e1 w1 r1 p1 => by
    by_cases hz : ds.length ≤ sizeLine
    · rw [if_pos hz] at p1
      exact ⟨by rw [r1.length]; exact hz, fun q hq => p1 _ _ g1 (Ext.new hq) (w1.new hq) ⟨q, vs, rfl, .inl upd_same, r1.mono (Ext.new hq).toPExt _ _⟩⟩
    · rw [if_neg hz] at p1
      exact p1.elim⟩
def fLst (m : Ls → Sto → R (List D)) : Ls → Sto → R (List D) := fun L S => (m L S).bind fun ds S1 => if ds.length ≤ sizeLine then .ok ds S1 else .no
theorem fresh_of {H H1 : Hp} {g g1 : G} {q : Addr} (e : Ext H g H1 g1) (h : H1 q = none) : H q = none := by
  cases z : H q with
  | none => rfl
  | some o => obtain ⟨u, y⟩ := e.tr q o z; rw [h] at y; cases y
theorem own_new {k : Kx} {H : Hp} {g : G} {S : Sto} {ds : List D} {vs : List V} {q : Addr} (w : WF k H g S) (r : RepL k H g ds vs) (hq : H q = none) : OwnAt k (upd H q (.lst vs)) g q (.lst ds) := by
  refine ⟨⟨vs, upd_same, r.mono (Ext.new hq).toPExt _ _⟩, fun f => ?_, fun i hi z => ?_⟩
  · obtain ⟨o, z⟩ := w.tF q f
    rw [hq] at z; cases z
  · obtain ⟨o, y⟩ := w.ρt hi
    rw [z, hq] at y; cases y
/-- a rule that ends in a new list -/
theorem f_fin {k : Kx} {H H1 : Hp} {g g1 : G} {S1 : Sto} {W : Value → Option Addr → Hp → Prop} {ds : List D} {vs : List V} {q : Addr} {Q : VK} (e : Ext H g H1 g1) (w1 : WF k H1 g1 S1) (r : RepL k H1 g1 ds vs)
    (p : Post k (FRep k H) H1 g1 W (.ok ds S1) Q) (hq : H1 q = none) : Q (.ref q) (upd H1 q (.lst vs)) :=
  p _ _ g1 (Ext.new hq) (w1.new hq) ⟨q, rfl, fresh_of e hq, own_new w1 r hq⟩
theorem sf_lst {pos : Pos} {mr : Ls → Sto → R (List D)} (h : SAE X W es mr) : SF X W (.List es pos) (fLst mr) :=
  PE.imp (pe_lst h) fun σ H Q ⟨L, S, g, l, w, p⟩ => ⟨L, S, g, l, w, Post.bind p fun ds S1 vs H1 g1 e1 w1 r1 p1 => by
    by_cases hz : ds.length ≤ sizeLine
    · rw [if_pos hz] at p1
      exact ⟨by rw [r1.length]; exact hz, fun q hq => f_fin e1 w1 r1 p1 hq⟩
    · rw [if_neg hz] at p1
      exact p1.elim⟩
/-- a new list that is never changed; one in the store -/
def eFz (m : Ls → Sto → R (List D)) : EM := fun L S => (m L S).bind fun ds S1 => .ok (.lst ds) S1
def eNw (m : Ls → Sto → R (List D)) : EM := fun L S => (m L S).bind fun ds S1 => .ok (.obj S1.length) (S1 ++ [.lst ds])
theorem Ext.frzNew {H : Hp} {H1 : Hp} {g g1 : G} {q : Addr} (e : Ext H g H1 g1) (hq : H q = none) : Ext H g H1 (g1.frz q) where
  toPExt := e.toPExt.trans PExt.frz
  keep := e.keep
  newF := fun a f => by
    rcases f with rfl | f
    · exact .inr hq
    · exact e.newF a f
  newρ := e.newρ
  tr := e.tr
theorem WF.frzOwn {k : Kx} {H : Hp} {g : G} {S : Sto} {q : Addr} {o : O} (w : WF k H g S) (h : OwnAt k H g q o) : WF k H (g.frz q) S where
  len := w.len
  ob := fun i u e => (w.ob i u e).mono PExt.frz fun _ z => z
  inj := w.inj
  nF := fun i hi f => by
    rcases f with f | f
    · exact h.2.2 i hi f
    · exact w.nF i hi f
  tF := fun a f => by
    rcases f with rfl | f
    · exact h.1.tr
    · exact w.tF a f
theorem OwnAt.frz {k : Kx} {H : Hp} {g : G} {q : Addr} {ds : List D} (h : OwnAt k H g q (.lst ds)) : Rep k H (g.frz q) (.lst ds) (.ref q) := by
  obtain ⟨⟨vs, e, r⟩, _⟩ := h
  exact ⟨q, vs, rfl, .inl rfl, e, r.mono PExt.frz _ _⟩
theorem se_fz {mr : Ls → Sto → R (List D)} (h : SF X W e mr) : SE X W e (eFz mr) := PE.imp h fun σ H Q ⟨L, S, g, l, w, p⟩ => ⟨L, S, g, l, w, by
  unfold eFz at p
  cases q : mr L S with
  | ok ds S1 =>
    rw [q] at p
    exact fun v H1 g1 e1 w1 ⟨a, h1, h2, h3⟩ => p v H1 (g1.frz a) (e1.frzNew h2) (w1.frzOwn h3) (by rw [h1]; exact h3.frz)
  | ex x S1 => rw [q] at p; exact p
  | no => rw [q] at p; exact p⟩
theorem Ext.pushNew {H : Hp} {H1 : Hp} {g g1 : G} {q : Addr} (e : Ext H g H1 g1) (hq : H q = none) : Ext H g H1 (g1.push q) where
  toPExt := e.toPExt.trans ⟨fun _ h => h, fun _ _ _ h => h, fun _ _ h => h, fun _ _ _ h => h, Nat.le_succ _, fun i hi => if_neg (Nat.ne_of_lt hi)⟩
  keep := e.keep
  newF := e.newF
  newρ := fun i h1 h2 => by
    show H (if i = g1.n then q else g1.ρ i) = none
    by_cases z : i = g1.n
    · rw [if_pos z]; exact hq
    · rw [if_neg z]
      have h3 : i < g1.n + 1 := h2
      exact e.newρ i h1 (by omega)
  tr := e.tr
theorem WF.pushOwn {k : Kx} {H : Hp} {g : G} {S : Sto} {q : Addr} {o : O} (w : WF k H g S) (h : OwnAt k H g q o) : WF k H (g.push q) (S ++ [o]) where
  len := by rw [List.length_append, w.len]; rfl
  ob := fun i u e => by
    have pe : PExt H g H (g.push q) := ⟨fun _ h => h, fun _ _ _ h => h, fun _ _ h => h, fun _ _ _ h => h, Nat.le_succ _, fun i hi => if_neg (Nat.ne_of_lt hi)⟩
    by_cases hi : i < g.n
    · rw [List.getElem?_append_left (by rw [w.len]; exact hi)] at e
      show ORep k _ _ u (if i = g.n then q else g.ρ i)
      rw [if_neg (Nat.ne_of_lt hi)]
      exact (w.ob i u e).mono pe fun o z => z
    · rw [List.getElem?_append_right (by rw [w.len]; exact Nat.le_of_not_lt hi), w.len] at e
      have e0 : i - g.n = 0 := by
        rcases Nat.eq_zero_or_pos (i - g.n) with z | z
        · exact z
        · rw [List.getElem?_eq_none (by simp only [List.length_singleton]; omega)] at e; cases e
      have ei : i = g.n := by omega
      rw [e0] at e
      cases e
      show ORep k _ _ o (if i = g.n then q else g.ρ i)
      rw [if_pos ei]
      exact h.1.mono pe fun o z => z
  inj := fun i j hi hj e => by
    have e' : (if i = g.n then q else g.ρ i) = (if j = g.n then q else g.ρ j) := e
    have h3 : i < g.n + 1 := hi
    have h4 : j < g.n + 1 := hj
    by_cases h1 : i = g.n
    · by_cases h2 : j = g.n
      · omega
      · rw [if_pos h1, if_neg h2] at e'
        exact absurd e'.symm (h.2.2 j (by omega))
    · by_cases h2 : j = g.n
      · rw [if_neg h1, if_pos h2] at e'
        exact absurd e' (h.2.2 i (by omega))
      · rw [if_neg h1, if_neg h2] at e'
        exact w.inj i j (by omega) (by omega) e'
  nF := fun i hi f => by
    have f' : g.F (if i = g.n then q else g.ρ i) := f
    have h3 : i < g.n + 1 := hi
    by_cases h1 : i = g.n
    · rw [if_pos h1] at f'
      exact h.2.1 f'
    · rw [if_neg h1] at f'
      exact w.nF i (by omega) f'
  tF := fun a f => w.tF a f
theorem se_nw {mr : Ls → Sto → R (List D)} (h : SF X W e mr) : SE X W e (eNw mr) := PE.imp h fun σ H Q ⟨L, S, g, l, w, p⟩ => ⟨L, S, g, l, w, by
  unfold eNw at p
  cases q : mr L S with
  | ok ds S1 =>
    rw [q] at p
    refine fun v H1 g1 e1 w1 ⟨a, h1, h2, h3⟩ => p v H1 (g1.push a) (e1.pushNew h2) (w1.pushOwn h3) ?_
    rw [h1]
    refine ⟨by rw [w1.len]; exact Nat.lt_succ_self _, ?_⟩
    show V.ref a = V.ref (if S1.length = g1.n then a else _)
    rw [if_pos w1.len]
  | ex x S1 => rw [q] at p; exact p
  | no => rw [q] at p; exact p⟩
def tNt (m : Ls → Sto → R Bool) : Ls → Sto → R Bool := fun L S => (m L S).bind fun b S1 => .ok (!b) S1
def tAn (ma mb : Ls → Sto → R Bool) : Ls → Sto → R Bool := fun L S => (ma L S).bind fun b S1 => if b = true then mb L S1 else .ok false S1
def tOo (ma mb : Ls → Sto → R Bool) : Ls → Sto → R Bool := fun L S => (ma L S).bind fun b S1 => if b = true then .ok true S1 else mb L S1
variable {ta tb tc : Ls → Sto → R Bool} {pos : Pos} {rest : List Expr}
theorem st_not (h : ST X W a ta) : ST X W (.UnaryOp .Not a pos) (tNt ta) :=
  PT.imp (pt_not h) fun σ H Q ⟨L, S, g, l, w, p⟩ => ⟨L, S, g, l, w, Post.bind p fun b S1 c H1 g1 e1 w1 r1 p1 => by cases r1; exact Post.ret p1 w1 rfl⟩
abbrev SW (X : Cx) (W : WX) (e : Expr) (m : Ls → Sto → R Bool) : Prop := PW X e (tT (kx X) W m)
theorem PW.imp {e : Expr} {t t' : TT} (h : PW X e t) (i : ∀ σ H Q, t' σ H Q → t σ H Q) : PW X e t' := ⟨fun wh pins s σ H Q I q => h.run wh pins s σ H Q I (i σ H Q q)⟩
theorem sw_and1 (h : ST X W a ta) : SW X W (.BoolOp .And [a] pos) ta := pw_and1 h
theorem sw_or1 (h : ST X W a ta) : SW X W (.BoolOp .Or [a] pos) ta := pw_or1 h
theorem sw_and (ha : ST X W a ta) (hb : SW X W (.BoolOp .And (b :: rest) pos) tb) : SW X W (.BoolOp .And (a :: b :: rest) pos) (tAn ta tb) :=
  PW.imp (pw_and ha hb) fun σ H Q ⟨L, S, g, l, w, p⟩ => ⟨L, S, g, l, w, Post.bind p fun c S1 c' H1 g1 e1 w1 r1 p1 => by
    cases r1
    cases c with
    | true => exact ⟨L, S1, g1, l.ext e1, w1, p1⟩
    | false => exact Post.ret p1 w1 rfl⟩
theorem sw_or (ha : ST X W a ta) (hb : SW X W (.BoolOp .Or (b :: rest) pos) tb) : SW X W (.BoolOp .Or (a :: b :: rest) pos) (tOo ta tb) :=
  PW.imp (pw_or ha hb) fun σ H Q ⟨L, S, g, l, w, p⟩ => ⟨L, S, g, l, w, Post.bind p fun c S1 c' H1 g1 e1 w1 r1 p1 => by
    cases r1
    cases c with
    | true => exact Post.ret p1 w1 rfl
    | false => exact ⟨L, S1, g1, l.ext e1, w1, p1⟩⟩
/-- a value's truth -/
def truth : D → Option Bool
  | .non => some false
  | .bl b => some b
  | .int i => some (i != 0)
  | .str x => if x.length ≤ sizeLine then some (!x.isEmpty) else none
  | .tup xs => some (!xs.isEmpty)
  | .lst xs => some (!xs.isEmpty)
  | _ => none
def tTr (m : EM) : Ls → Sto → R Bool := fun L S => (m L S).bind fun d S1 => lift (truth (deref S1 d)) S1
theorem isEmpty_rep {k : Kx} {H : Hp} {g : G} {ds : List D} {vs : List V} (r : RepL k H g ds vs) : ds.isEmpty = vs.isEmpty := by
  cases ds with
  | nil => cases (show vs = [] from r); rfl
  | cons d ds => obtain ⟨v, u, rfl, _⟩ := r; rfl
theorem truth_v {k : Kx} {H : Hp} {g : G} {d : D} {v : V} {b : Bool} (h : truth d = some b) (c : CRep k H g d v) : TruV k.K v H b := by
  cases d with
  | non => cases c; cases h; rfl
  | bl b => cases c; cases h; rfl
  | int i => cases c; cases h; rfl
  | str x =>
    cases c
    simp only [truth] at h
    split at h
    · rename_i hz
      cases h
      refine ⟨by rw [mk_len]; exact hz, ?_⟩
      rw [mk_len]
      cases x with
      | nil => rfl
      | cons c x =>
        show true = _
        rw [eq_comm, bne_iff_ne]
        simp only [List.length_cons]
        omega
    · cases h
  | tup xs =>
    cases h
    obtain ⟨a, vs, rfl, h1, h2⟩ := c
    exact .inr (.inl ⟨vs, h1.sq, by rw [isEmpty_rep h2]⟩)
  | lst xs =>
    cases h
    obtain ⟨a, vs, rfl, h1, h2⟩ := c
    exact .inl ⟨vs, SqL.of h1, by rw [isEmpty_rep h2]⟩
  | _ => cases h
theorem st_truth (h : SP X W e m) (ht : plainTest e = true) : ST X W e (tTr m) :=
  PT.imp (pt_truth h (plain_true ht)) fun σ H Q ⟨L, S, g, l, w, p⟩ => ⟨L, S, g, l, w, Post.bind p fun d S1 v H1 g1 e1 w1 r1 p1 => by
    cases q : truth (deref S1 d) with
    | none => rw [q] at p1; exact p1.elim
    | some b =>
      rw [q] at p1
      exact ⟨b, truth_v q (r1.c (l.ext e1) w1), Post.ret p1 w1 rfl⟩⟩
def eAn (ma mb : EM) : EM := fun L S => (ma L S).bind fun d S1 => match d with
  | .bl true => mb L S1
  | .bl false => .ok (.bl false) S1
  | _ => .no
def eOo (ma mb : EM) : EM := fun L S => (ma L S).bind fun d S1 => match d with
  | .bl true => .ok (.bl true) S1
  | .bl false => mb L S1
  | _ => .no
def eNt (ma : EM) : EM := fun L S => (ma L S).bind fun d S1 => match d with
  | .bl b => .ok (.bl (!b)) S1
  | _ => .no
theorem se_one {op : BoolOp} (h : SE X W a ma) : SE X W (.BoolOp op [a] pos) ma := pe_one h
theorem se_and (ha : SE X W a ma) (hb : SE X W (.BoolOp .And (b :: rest) pos) mb) : SE X W (.BoolOp .And (a :: b :: rest) pos) (eAn ma mb) :=
  PE.imp (pe_and ha hb) fun σ H Q ⟨L, S, g, l, w, p⟩ => ⟨L, S, g, l, w, Post.bind p fun d S1 v H1 g1 e1 w1 r1 p1 => by
    cases d with
    | bl c =>
      cases r1
      refine ⟨c, rfl, ?_⟩
      cases c with
      | true => exact ⟨L, S1, g1, l.ext e1, w1, p1⟩
      | false => exact Post.ret p1 w1 rfl
    | _ => exact p1.elim⟩
def eIf (t : Ls → Sto → R Bool) (ma mb : EM) : EM := fun L S => (t L S).bind fun c S1 => if c = true then ma L S1 else mb L S1
theorem se_if (hc : ST X W c tc) (ha : SE X W a ma) (hb : SE X W b mb) : SE X W (.IfExp c a b pos) (eIf tc ma mb) :=
  PE.imp (pe_ifExp hc ha hb) fun σ H Q ⟨L, S, g, l, w, p⟩ => ⟨L, S, g, l, w, Post.bind p fun d S1 d' H1 g1 e1 w1 r1 p1 => by
    cases r1
    cases d with
    | true => exact ⟨L, S1, g1, l.ext e1, w1, p1⟩
    | false => exact ⟨L, S1, g1, l.ext e1, w1, p1⟩⟩
def eNeg (ma : EM) : EM := fun L S => (ma L S).bind fun d S1 => match d with
  | .int i => .ok (.int (-i)) S1
  | _ => .no
theorem se_neg (ha : SE X W a ma) : SE X W (.UnaryOp .USub a pos) (eNeg ma) :=
  PE.imp (pe_un un_neg ha) fun σ H Q ⟨L, S, g, l, w, p⟩ => ⟨L, S, g, l, w, Post.bind p fun d S1 v H1 g1 e1 w1 r1 p1 => by
    cases d with
    | int i => cases r1; exact ⟨i, rfl, Post.ret p1 w1 rfl⟩
    | _ => exact p1.elim⟩
def eCh (o o' : D → D → Option D) (ma mb mc : EM) : EM := fun L S => (ma L S).bind fun x S1 => (mb L S1).bind fun y S2 => match o (deref S2 x) (deref S2 y) with
  | some (.bl true) => (mc L S2).bind fun z S3 => lift (o' (deref S3 y) (deref S3 z)) S3
  | some (.bl false) => .ok (.bl false) S2
  | _ => .no
theorem RepL.atI {k : Kx} {H : Hp} {g : G} {ds : List D} {vs : List V} {i : Int} {d : D} (r : RepL k H g ds vs) (h : L2.atI ds i = some d) : ∃ v, L2.atI vs i = some v ∧ Rep k H g d v := by
  unfold L2.atI at h ⊢
  rw [r.length]
  cases q : ixN ds.length i with
  | none => rw [q] at h; cases h
  | some j =>
    rw [q] at h
    exact r.get h
def oIx : D → D → Option D
  | .lst xs, .int i => L2.atI xs i
  | .tup xs, .int i => L2.atI xs i
  | .str x, .int i => if x.length ≤ sizeLine then (L2.atI x i).map fun c => .str [c] else none
  | _, _ => none
theorem ix_ok : IxR X (fun x y H Q => ∃ g S d e res, WF (kx X) H g S ∧ CRep (kx X) H g d x ∧ CRep (kx X) H g e y ∧ oIx d e = some res ∧ ∀ v H' g', Ext H g H' g' → WF (kx X) H' g' S → Rep (kx X) H' g' res v → Q v H') := by
  rintro value slice pins s σ H x y v u Q I rx ry ⟨g, S, d, e, res, w, c1, c2, h, q⟩ hs
  unfold oIx at h
  split at h
  · cases c2
    obtain ⟨p, vs, rfl, hp, r⟩ := c1
    obtain ⟨z, hz, rz⟩ := r.atI h
    exact ix_list value slice pins s σ H _ _ v u Q I rx ry ⟨p, vs, _, z, rfl, rfl, SqL.of hp, hz, scalar_fin q w rz⟩ hs
  · cases c2
    obtain ⟨p, vs, rfl, hp, r⟩ := c1
    obtain ⟨z, hz, rz⟩ := r.atI h
    exact ix_tup value slice pins s σ H _ _ v u Q I rx ry ⟨p, vs, _, z, rfl, rfl, hp.sq, hz, scalar_fin q w rz⟩ hs
  · split at h
    · rename_i x i hz
      cases c2; cases c1
      obtain ⟨c, hc, rfl⟩ := Option.map_eq_some_iff.mp h
      exact ix_str value slice pins s σ H _ _ v u Q I rx ry ⟨_, _, c, rfl, rfl, by rw [mk_len]; exact hz, by simpa using hc, scalar_fin q w rfl⟩ hs
    · cases h
  · cases h
theorem se_ix (ha : SP X W a ma) (hb : SP X W b mb) (hn : notSlice b = true) : SE X W (.Subscript a b pos) (eBin oIx ma mb) :=
  PE.imp (pe_ix ix_ok ha hb (not_slice hn)) fun σ H Q q => two_ops q
/-- a slice's part -/
def tO (k : Kx) (W : WX) (m : Ls → Sto → R (Option Int)) : TO := fun σ H Q => ∃ L S g, LocRel k σ L H g ∧ WF k H g S ∧ Post k (fun _ _ (b c : Option Int) => c = b) H g (fun c d => W c d σ) (m L S) Q
abbrev SO (X : Cx) (W : WX) (e : Option Expr) (m : Ls → Sto → R (Option Int)) : Prop := PO X e (tO (kx X) W m)
def oNo : Ls → Sto → R (Option Int) := fun _ S => .ok none S
def oSo (m : EM) : Ls → Sto → R (Option Int) := fun L S => (m L S).bind fun d S1 => match d with
  | .int i => .ok (some i) S1
  | .non => .ok none S1
  | _ => .no
theorem so_none : SO X W none oNo := ⟨fun pins s σ H Q I ⟨L, S, g, l, w, p⟩ => po_none.run pins s σ H Q I (Post.ret p w rfl)⟩
theorem so_some (h : SE X W e m) : SO X W (some e) (oSo m) := by
  refine ⟨fun pins s σ H Q I ⟨L, S, g, l, w, p⟩ => ?_⟩
  rw [evalPart_some]
  refine thn (h.run pins s σ H (fun x H1 => ∃ o, (x = .non ∧ o = none ∨ ∃ i, x = .int i ∧ o = some i) ∧ Q o H1) I ⟨L, S, g, l, w, Post.bind p fun d S1 v H1 g1 e1 w1 r1 p1 => ?_⟩) fun u s1 ⟨x, H1, I1, r1, o, ho, q1⟩ => ?_
  · cases d with
    | non => cases r1; exact ⟨none, .inl ⟨rfl, rfl⟩, Post.ret p1 w1 rfl⟩
    | int i => cases r1; exact ⟨some i, .inr ⟨i, rfl, rfl⟩, Post.ret p1 w1 rfl⟩
    | _ => exact p1.elim
  · rcases ho with ⟨rfl, rfl⟩ | ⟨i, rfl, rfl⟩
    · cases r1
      exact ⟨none, H1, I1, .none, q1⟩
    · obtain ⟨t, rfl⟩ := r1
      exact ⟨some i, H1, I1, .int i t, q1⟩
def cutD {α : Type} (xs : List α) (lo hi : Option Int) : List α := (xs.drop (HT.sIx xs.length 0 lo)).take (HT.sIx xs.length xs.length hi - HT.sIx xs.length 0 lo)
def oSl : D → Option Int → Option Int → Option D
  | .lst xs, lo, hi => some (.lst (cutD xs lo hi))
  | .tup xs, lo, hi => some (.tup (cutD xs lo hi))
  | .str x, lo, hi => if x.length ≤ sizeLine then some (.str (cutD x lo hi)) else none
  | .scr ns, lo, hi => some (.lst (cutD (ns.map .int) lo hi))
  | _, _, _ => none
theorem RepL.cut {k : Kx} {H : Hp} {g : G} {ds : List D} {vs : List V} (r : RepL k H g ds vs) (lo hi : Option Int) : RepL k H g (cutD ds lo hi) (cutV vs lo hi) := by
  unfold cutD cutV
  rw [r.length]
  exact (r.drop _).take _
theorem RepL.ints {k : Kx} {H : Hp} {g : G} : ∀ ns : List Int, RepL k H g (ns.map .int) (ns.map V.int)
  | [] => rfl
  | n :: ns => ⟨_, _, rfl, rfl, RepL.ints ns⟩
theorem sl_ok : SlR X (fun x lo hi H Q => ∃ g S d res, WF (kx X) H g S ∧ CRep (kx X) H g d x ∧ oSl d lo hi = some res ∧ ∀ v H' g', Ext H g H' g' → WF (kx X) H' g' S → Rep (kx X) H' g' res v → Q v H') := by
  rintro pins s σ H x v vl vu lo hi sl Q I rx hs pl pu ⟨g, S, d, res, w, c, h, q⟩
  cases d with
  | lst xs =>
    cases h
    obtain ⟨p, vs, rfl, hp, r⟩ := c
    exact sl_list pins s σ H _ v vl vu lo hi sl Q I rx hs pl pu ⟨p, vs, rfl, SqL.of hp, fun p' hp' => lst_fin q w (r.cut lo hi) hp'⟩
  | scr ns =>
    cases h
    obtain ⟨p, rfl, hp⟩ := c
    exact sl_list pins s σ H _ v vl vu lo hi sl Q I rx hs pl pu ⟨p, _, rfl, hp.sq, fun p' hp' => lst_fin q w ((RepL.ints ns).cut lo hi) hp'⟩
  | tup xs =>
    cases h
    obtain ⟨p, vs, rfl, hp, r⟩ := c
    refine sl_tupA pins s σ H _ v vl vu lo hi sl Q I rx hs pl pu ⟨p, vs, rfl, hp.sq, fun hw => scalar_fin q w ⟨p, vs, rfl, hp, ?_⟩, fun _ p' hp' => tup_fin q w (r.cut lo hi) hp'⟩
    have e : cutD xs lo hi = xs := by
      unfold cutD
      rw [r.length] at hw
      rw [hw.1, hw.2, List.drop_zero, Nat.sub_zero, List.take_length]
    rw [e]; exact r
  | str z =>
    simp only [oSl] at h
    split at h
    · rename_i hz
      cases h
      cases c
      refine sl_str pins s σ H _ v vl vu lo hi sl Q I rx hs pl pu ⟨_, rfl, by rw [mk_len]; exact hz, scalar_fin q w ?_⟩
      show V.str (cutS _ lo hi) = V.str _
      unfold cutS cutD
      rw [mk_len]
    · cases h
  | _ => cases h
def eSl (ma : EM) (ml mh : Ls → Sto → R (Option Int)) : EM := fun L S => (ma L S).bind fun d S1 => (ml L S1).bind fun lo S2 => (mh L S2).bind fun hi S3 => lift (oSl (deref S3 d) lo hi) S3
theorem se_sl {lo hi : Option Expr} {ml mh : Ls → Sto → R (Option Int)} {p2 : Pos} (ha : SP X W a ma) (hl : SO X W lo ml) (hh : SO X W hi mh) : SE X W (.Subscript a (.Slice lo hi none p2) pos) (eSl ma ml mh) :=
  PE.imp (pe_slice sl_ok ha hl hh) fun σ H Q ⟨L, S, g, l, w, p⟩ => ⟨L, S, g, l, w, Post.bind p fun d S1 v H1 g1 e1 w1 r1 p1 =>
    ⟨L, S1, g1, l.ext e1, w1, Post.bind p1 fun lo' S2 lo2 H2 g2 e2 w2 r2 p2 => by
      cases r2
      exact ⟨L, S2, g2, (l.ext e1).ext e2, w2, Post.bind p2 fun hi' S3 hi2 H3 g3 e3 w3 r3 p3 => by
        cases r3
        have l3 := ((l.ext e1).ext e2).ext e3
        cases q : oSl (deref S3 d) lo' hi' with
        | none => rw [q] at p3; exact p3.elim
        | some res =>
          rw [q] at p3
          exact ⟨g3, S3, _, res, w3, ((r1.ext e2.toPExt).ext e3.toPExt).c l3 w3, q, p3⟩⟩⟩⟩
end
end Rf
set_option Elab.async false
set_option linter.all false
set_option maxRecDepth 100000
namespace Rf
open PySem L2 TL
def CRepL (k : Kx) (H : Hp) (g : G) : List D → List V → Prop
  | [], vs => vs = []
  | d :: ds, vs => ∃ v r, vs = v :: r ∧ CRep k H g d v ∧ CRepL k H g ds r
theorem PkL.c {k : Kx} {σ : L2.St} {L : Ls} {H : Hp} {g : G} {S : Sto} (l : LocRel k σ L H g) (w : WF k H g S) : ∀ {ds : List D} {vs : List V}, PkL k σ L H g ds vs → CRepL k H g (ds.map (deref S)) vs
  | [], _, h => h
  | _ :: _, _, ⟨v, r, h1, h2, h3⟩ => ⟨v, r, h1, h2.c l w, PkL.c l w h3⟩
/-- a call on contents -/
def CallC (X : Cx) (f : Value) (o : List D → Option D) : Prop :=
  ∀ (ds : List D) (res : D), o ds = some res → CallR X f (fun xs H Q => ∃ g S, WF (kx X) H g S ∧ CRepL (kx X) H g ds xs ∧
    ∀ v H' g', Ext H g H' g' → WF (kx X) H' g' S → Rep (kx X) H' g' res v → Q v H')
theorem CallR.ex {X : Cx} {f : Value} {o : List D → Option D} (h : CallC X f o) : CallR X f (fun xs H Q => ∃ g S ds res, WF (kx X) H g S ∧ CRepL (kx X) H g ds xs ∧ o ds = some res ∧
    ∀ v H' g', Ext H g H' g' → WF (kx X) H' g' S → Rep (kx X) H' g' res v → Q v H') := by
  intro pins s σ H xs us Q I r q
  obtain ⟨g, S, ds, res, w, c, q1, q2⟩ := q
  exact h ds res q1 pins s σ H xs us Q I r ⟨g, S, w, c, q2⟩
def eCall (o : List D → Option D) (ma : Ls → Sto → R (List D)) : EM := fun L S => (ma L S).bind fun ds S1 => lift (o (ds.map (deref S1))) S1
theorem call_ops {k : Kx} {o : List D → Option D} {σ : L2.St} {H : Hp} {Q : VK} {Wf : WX} {ma : Ls → Sto → R (List D)} (h : tE k Wf (eCall o ma) σ H Q) :
    tA k Wf ma σ H fun xs H1 => ∃ g S ds res, WF k H1 g S ∧ CRepL k H1 g ds xs ∧ o ds = some res ∧ ∀ v H' g', Ext H1 g H' g' → WF k H' g' S → Rep k H' g' res v → Q v H' := by
  obtain ⟨L, S, g, l, w, p⟩ := h
  refine ⟨L, S, g, l, w, Post.bind p fun ds S1 vs H1 g1 e1 w1 r1 p1 => ?_⟩
  cases q : o (ds.map (deref S1)) with
  | none => rw [q] at p1; exact p1.elim
  | some res =>
    rw [q] at p1
    exact ⟨g1, S1, _, res, w1, r1.c (l.ext e1) w1, q, p1⟩
section
variable {X : Cx} {W : WX} {e : Expr} {es : List Expr} {x : Str} {p pos : Pos} {ma : Ls → Sto → R (List D)} {o : List D → Option D}
theorem se_callB {id : String} (h : CallC X (.builtin id) o) (hg : Gl X x) (hm : X.mg x = none) (hv : bootBuiltins x = some (.builtin id)) (ha : SA X W (e :: es) ma) (hs : (e :: es).all noStar = true) (hn : x ≠ "__name__") (hd : (x == ("__debug__" : Str)) = false) :
    SE X W (.Call (.Name x p) (e :: es) [] pos) (eCall o ma) := by
  have hs' : noStar e = true ∧ es.all noStar = true := by rwa [List.all_cons, Bool.and_eq_true] at hs
  exact PE.imp (pe_callB (CallR.ex h) hg hm hv ha hn hd (star_cons hs'.1) (star_any hs'.2)) fun σ H Q q => call_ops q
theorem se_callT {T : String} (h : CallC X (.type T) o) (hg : Gl X x) (hm : X.mg x = none) (hv : bootBuiltins x = some (.type T)) (ha : SA X W (e :: es) ma) (hs : (e :: es).all noStar = true) (hn : x ≠ "__name__") (hd : (x == ("__debug__" : Str)) = false) :
    SE X W (.Call (.Name x p) (e :: es) [] pos) (eCall o ma) := by
  have hs' : noStar e = true ∧ es.all noStar = true := by rwa [List.all_cons, Bool.and_eq_true] at hs
  exact PE.imp (pe_callTy (CallR.ex h) hg hm hv ha hn hd (star_cons hs'.1) (star_any hs'.2)) fun σ H Q q => call_ops q
end
def CallF (X : Cx) (f : Value) (o : List D → Option (List D)) : Prop :=
  ∀ (ds : List D) (res : List D), o ds = some res → CallR X f (fun xs H Q => ∃ g S, WF (kx X) H g S ∧ CRepL (kx X) H g ds xs ∧
    ∀ q vs, H q = none → RepL (kx X) H g res vs → Q (.ref q) (upd H q (.lst vs)))
theorem CallR.exF {X : Cx} {f : Value} {o : List D → Option (List D)} (h : CallF X f o) : CallR X f (fun xs H Q => ∃ g S ds res, WF (kx X) H g S ∧ CRepL (kx X) H g ds xs ∧ o ds = some res ∧
    ∀ q vs, H q = none → RepL (kx X) H g res vs → Q (.ref q) (upd H q (.lst vs))) := by
  intro pins s σ H xs us Q I r q
  obtain ⟨g, S, ds, res, w, c, q1, q2⟩ := q
  exact h ds res q1 pins s σ H xs us Q I r ⟨g, S, w, c, q2⟩
def fCall (o : List D → Option (List D)) (ma : Ls → Sto → R (List D)) : Ls → Sto → R (List D) := fun L S => (ma L S).bind fun ds S1 => lift (o (ds.map (deref S1))) S1
theorem callF_ops {k : Kx} {o : List D → Option (List D)} {σ : L2.St} {H : Hp} {Q : VK} {Wf : WX} {ma : Ls → Sto → R (List D)} (h : tF k Wf (fCall o ma) σ H Q) :
    tA k Wf ma σ H fun xs H1 => ∃ g S ds res, WF k H1 g S ∧ CRepL k H1 g ds xs ∧ o ds = some res ∧ ∀ q vs, H1 q = none → RepL k H1 g res vs → Q (.ref q) (upd H1 q (.lst vs)) := by
  obtain ⟨L, S, g, l, w, p⟩ := h
  refine ⟨L, S, g, l, w, Post.bind p fun ds S1 vs H1 g1 e1 w1 r1 p1 => ?_⟩
  cases q : o (ds.map (deref S1)) with
  | none => rw [q] at p1; exact p1.elim
  | some res =>
    rw [q] at p1
    exact ⟨g1, S1, _, res, w1, r1.c (l.ext e1) w1, q, fun q vs hq r => f_fin e1 w1 r p1 hq⟩
section
variable {X : Cx} {W : WX} {e : Expr} {es : List Expr} {x : Str} {p pos : Pos} {ma : Ls → Sto → R (List D)} {o : List D → Option (List D)}
theorem sf_callT {T : String} (h : CallF X (.type T) o) (hg : Gl X x) (hm : X.mg x = none) (hv : bootBuiltins x = some (.type T)) (ha : SA X W (e :: es) ma) (hs : (e :: es).all noStar = true) (hn : x ≠ "__name__") (hd : (x == ("__debug__" : Str)) = false) :
    SF X W (.Call (.Name x p) (e :: es) [] pos) (fCall o ma) := by
  have hs' : noStar e = true ∧ es.all noStar = true := by rwa [List.all_cons, Bool.and_eq_true] at hs
  exact PE.imp (pe_callTy (CallR.exF h) hg hm hv ha hn hd (star_cons hs'.1) (star_any hs'.2)) fun σ H Q q => callF_ops q
end
/-- an int's text -/
def intS : Int → List Nat
  | .ofNat n => numL n
  | .negSucc n => 45 :: numL (n + 1)
theorem toString_intS (i : Int) : (Str.ofString (toString i)) = ⟨(intS i).toArray⟩ := by
  cases i with
  | ofNat n =>
    have h := tl_num n
    exact (mk_tl _).symm.trans (by rw [show (Int.ofNat n) = ((n : Nat) : Int) from rfl, h] <;> rfl)
  | negSucc n =>
    have e : (toString (Int.negSucc n) : String) = "-" ++ toString (n + 1) := rfl
    have h2 := tl_num (n + 1)
    have h3 : (toString ((n + 1 : Nat) : Int) : String) = toString (n + 1) := rfl
    rw [h3, tl_ofString] at h2
    rw [e, PySem.Str.ofString_eq_toList]
    congr 2
    rw [String.toList_append, List.map_append]
    show [45] ++ _ = _
    rw [h2] <;> rfl
def lenD : D → Option Nat
  | .str x => if x.length ≤ sizeLine then some x.length else none
  | .tup xs => some xs.length
  | .lst xs => some xs.length
  | .scr ns => some ns.length
  | _ => none
def bLen : List D → Option D
  | [d] => (lenD d).map fun (n : Nat) => D.int (n : Int)
  | _ => none
def bAbs : List D → Option D
  | [.int i] => some (.int (if i < 0 then -i else i))
  | _ => none
def bInt : List D → Option D
  | [.int i] => some (.int i)
  | [.bl b] => some (.int (if b then 1 else 0))
  | _ => none
def bMax2 : List D → Option D
  | [.int i, .int j] => some (.int (if j > i then j else i))
  | _ => none
def bMin2 : List D → Option D
  | [.int i, .int j] => some (.int (if j < i then j else i))
  | _ => none
def blsD : List D → Option (List Bool)
  | [] => some []
  | .bl b :: ds => (blsD ds).map (b :: ·)
  | _ :: _ => none
def bAll : List D → Option D
  | [.lst ds] => (blsD ds).map fun bs => .bl (bs.all id)
  | _ => none
def bAny : List D → Option D
  | [.lst ds] => (blsD ds).map fun bs => .bl (bs.any id)
  | _ => none
def bTuple : List D → Option D
  | [.lst ds] => some (.tup ds)
  | [.tup ds] => some (.tup ds)
  | [.scr ns] => some (.tup (ns.map .int))
  | _ => none
def fList : List D → Option (List D)
  | [.lst ds] => some ds
  | [.tup ds] => some ds
  | [.scr ns] => some (ns.map .int)
  | _ => none
theorem blsD_v {k : Kx} {H : Hp} {g : G} : ∀ {ds : List D} {vs : List V} {ns : List Bool}, blsD ds = some ns → RepL k H g ds vs → vs = ns.map V.bl
  | [], _, _, h, r => by cases h; exact r
  | .bl i :: ds, _, ns, h, ⟨v, u, h1, h2, h3⟩ => by
    simp only [blsD, Option.map_eq_some_iff] at h
    obtain ⟨ms, hm, rfl⟩ := h
    cases h2
    rw [h1, blsD_v hm h3] <;> rfl
  | .non :: _, _, _, h, _ => by cases h
  | .int _ :: _, _, _, h, _ => by cases h
  | .str _ :: _, _, _, h, _ => by cases h
  | .tup _ :: _, _, _, h, _ => by cases h
  | .lst _ :: _, _, _, h, _ => by cases h
  | .obj _ :: _, _, _, h, _ => by cases h
  | .gl _ :: _, _, _, h, _ => by cases h
  | .ty _ :: _, _, _, h, _ => by cases h
  | .scr _ :: _, _, _, h, _ => by cases h
section
variable {X : Cx}
theorem c1 {k : Kx} {H : Hp} {g : G} {d : D} {vs : List V} (h : CRepL k H g [d] vs) : ∃ v, vs = [v] ∧ CRep k H g d v := by
  obtain ⟨v, r, h1, h2, h3⟩ := h
  cases (show r = [] from h3)
  exact ⟨v, h1, h2⟩
theorem c2 {k : Kx} {H : Hp} {g : G} {d e : D} {vs : List V} (h : CRepL k H g [d, e] vs) : ∃ v u, vs = [v, u] ∧ CRep k H g d v ∧ CRep k H g e u := by
  obtain ⟨v, r, h1, h2, h3⟩ := h
  obtain ⟨u, rfl, h4⟩ := c1 h3
  exact ⟨v, u, h1, h2, h4⟩
theorem bLen_ok : CallC X (.builtin "len") bLen := by
  rintro ds res h pins s σ H xs us Q I r ⟨g, S, w, c, q⟩
  unfold bLen at h
  split at h
  · rename_i d
    obtain ⟨v, rfl, cv⟩ := c1 c
    obtain ⟨n, hn, rfl⟩ := Option.map_eq_some_iff.mp h
    refine call_len pins s σ H _ us Q I r ⟨v, n, rfl, ?_, scalar_fin q w rfl⟩
    cases d with
    | str x =>
      simp only [lenD] at hn
      split at hn
      · rename_i hz
        cases hn; cases cv
        exact ⟨by rw [mk_len]; exact hz, by rw [mk_len]⟩
      · cases hn
    | tup xs =>
      cases hn
      obtain ⟨p, vs, rfl, hp, r⟩ := cv
      exact .inr ⟨vs, hp.sq, r.length.symm⟩
    | lst xs =>
      cases hn
      obtain ⟨p, vs, rfl, hp, r⟩ := cv
      exact .inl ⟨vs, SqL.of hp, r.length.symm⟩
    | scr ns =>
      cases hn
      obtain ⟨p, rfl, hp⟩ := cv
      exact .inl ⟨_, hp.sq, (List.length_map _).symm⟩
    | _ => cases hn
  · cases h
theorem bAbs_ok : CallC X (.builtin "abs") bAbs := by
  rintro ds res h pins s σ H xs us Q I r ⟨g, S, w, c, q⟩
  unfold bAbs at h
  split at h
  · cases h
    obtain ⟨v, rfl, cv⟩ := c1 c
    cases cv
    exact call_abs pins s σ H _ us Q I r ⟨_, rfl, scalar_fin q w rfl⟩
  · cases h
theorem bInt_ok : CallC X (.type "int") bInt := by
  rintro ds res h pins s σ H xs us Q I r ⟨g, S, w, c, q⟩
  unfold bInt at h
  split at h
  · cases h
    obtain ⟨v, rfl, cv⟩ := c1 c
    cases cv
    exact call_int1 pins s σ H _ us Q I r (.inl ⟨_, rfl, scalar_fin q w rfl⟩)
  · cases h
    obtain ⟨v, rfl, cv⟩ := c1 c
    cases cv
    exact call_int1 pins s σ H _ us Q I r (.inr ⟨_, rfl, scalar_fin q w rfl⟩)
  · cases h
theorem bMax2_ok (hc : X.calm = true) : CallC X (.builtin "max") bMax2 := by
  rintro ds res h pins s σ H xs us Q I r ⟨g, S, w, c, q⟩
  unfold bMax2 at h
  split at h
  · cases h
    obtain ⟨v, u, rfl, cv, cv'⟩ := c2 c
    cases cv; cases cv'
    exact call_max2 hc pins s σ H _ us Q I r ⟨_, _, rfl, scalar_fin q w rfl⟩
  · cases h
theorem bMin2_ok (hc : X.calm = true) : CallC X (.builtin "min") bMin2 := by
  rintro ds res h pins s σ H xs us Q I r ⟨g, S, w, c, q⟩
  unfold bMin2 at h
  split at h
  · cases h
    obtain ⟨v, u, rfl, cv, cv'⟩ := c2 c
    cases cv; cases cv'
    exact call_min2 hc pins s σ H _ us Q I r ⟨_, _, rfl, scalar_fin q w rfl⟩
  · cases h
theorem bAll_ok (hc : X.calm = true) : CallC X (.builtin "all") bAll := by
  rintro ds res h pins s σ H xs us Q I r ⟨g, S, w, c, q⟩
  unfold bAll at h
  split at h
  · obtain ⟨ns, hn, rfl⟩ := Option.map_eq_some_iff.mp h
    obtain ⟨v, rfl, p, vs, rfl, hp, rr⟩ := c1 c
    rw [blsD_v hn rr] at hp
    exact cr_all hc pins s σ H _ us Q I r ⟨p, ns, rfl, SqL.of hp, scalar_fin q w rfl⟩
  · cases h
theorem bAny_ok (hc : X.calm = true) : CallC X (.builtin "any") bAny := by
  rintro ds res h pins s σ H xs us Q I r ⟨g, S, w, c, q⟩
  unfold bAny at h
  split at h
  · obtain ⟨ns, hn, rfl⟩ := Option.map_eq_some_iff.mp h
    obtain ⟨v, rfl, p, vs, rfl, hp, rr⟩ := c1 c
    rw [blsD_v hn rr] at hp
    exact cr_any hc pins s σ H _ us Q I r ⟨p, ns, rfl, SqL.of hp, scalar_fin q w rfl⟩
  · cases h
theorem bTuple_ok : CallC X (.type "tuple") bTuple := by
  rintro ds res h pins s σ H xs us Q I r ⟨g, S, w, c, q⟩
  unfold bTuple at h
  split at h
  · cases h
    obtain ⟨v, rfl, p, vs, rfl, hp, rr⟩ := c1 c
    exact call_tuple_of pins s σ H _ us Q I r ⟨p, vs, rfl, .inl ⟨SqL.of hp, fun l hl => tup_fin q w rr hl⟩⟩
  · cases h
    obtain ⟨v, rfl, p, vs, rfl, hp, rr⟩ := c1 c
    exact call_tuple_of pins s σ H _ us Q I r ⟨p, vs, rfl, .inr ⟨hp.sq, scalar_fin q w ⟨p, vs, rfl, hp, rr⟩⟩⟩
  · cases h
    obtain ⟨v, rfl, p, rfl, hp⟩ := c1 c
    exact call_tuple_of pins s σ H _ us Q I r ⟨p, _, rfl, .inl ⟨hp.sq, fun l hl => tup_fin q w (RepL.ints _) hl⟩⟩
  · cases h
theorem fList_ok : CallF X (.type "list") fList := by
  rintro ds res h pins s σ H xs us Q I r ⟨g, S, w, c, q⟩
  unfold fList at h
  split at h
  · cases h
    obtain ⟨v, rfl, p, vs, rfl, hp, rr⟩ := c1 c
    exact call_list_of pins s σ H _ us Q I r ⟨p, vs, rfl, .inl (SqL.of hp), fun l hl => q l vs hl rr⟩
  · cases h
    obtain ⟨v, rfl, p, vs, rfl, hp, rr⟩ := c1 c
    exact call_list_of pins s σ H _ us Q I r ⟨p, vs, rfl, .inr hp.sq, fun l hl => q l vs hl rr⟩
  · cases h
    obtain ⟨v, rfl, p, rfl, hp⟩ := c1 c
    exact call_list_of pins s σ H _ us Q I r ⟨p, _, rfl, .inl hp.sq, fun l hl => q l _ hl (RepL.ints _)⟩
  · cases h
end
/-- whether a value is of the built-in class t -/
def isTy (d : D) (t : String) : Option Bool :=
  if t = "str" ∨ t = "int" ∨ t = "bool" ∨ t = "tuple" ∨ t = "list" ∨ t = "dict" then
    match d with
    | .non => some false
    | .bl _ => some (t == "bool" || t == "int")
    | .int _ => some (t == "int")
    | .str _ => some (t == "str")
    | .tup _ => some (t == "tuple")
    | .lst _ => some (t == "list")
    | .edc => some (t == "dict")
    | _ => none
  else none
def clsName : D → String
  | .non => "NoneType"
  | .bl _ => "bool"
  | .int _ => "int"
  | .str _ => "str"
  | .tup _ => "tuple"
  | .edc => "dict"
  | _ => "list"
theorem isTy_kit {K : PySem.W.Frag} {d : D} {t : String} {b : Bool} (h : isTy d t = some b) : PySem.W.kitOne K (.type (clsName d)) (.type t) = some b := by
  apply kit_ty
  unfold isTy at h
  split at h
  · rename_i ht
    rcases ht with rfl | rfl | rfl | rfl | rfl | rfl <;> (cases d <;> first
      | (cases h; done)
      | (cases h; dsimp only [clsName]; decide +kernel))
  · cases h
theorem tyX_of {k : Kx} {H : Hp} {g : G} {d : D} {v : V} {t : String} {b : Bool} (h : isTy d t = some b) (c : CRep k H g d v) : TyX k.K H v (.type (clsName d)) := by
  cases d with
  | non => cases c; exact .base .non
  | bl x => cases c; exact .base (.bl x)
  | int i => cases c; exact .base (.int i)
  | str x => cases c; exact .base (.str _)
  | tup ds =>
    obtain ⟨a, vs, rfl, hs, _⟩ := c
    rcases hs with hs | ⟨⟨o, its, n, hk, hc, _⟩, _⟩
    · exact .base (.tup hs)
    · exact .kTuple hk hc
  | lst ds =>
    obtain ⟨a, vs, rfl, hs, _⟩ := c
    exact .base (.lst hs)
  | edc =>
    obtain ⟨a, rfl, _, hs⟩ := c
    exact .base (.dK hs)
  | _ => unfold isTy at h; split at h <;> cases h
def isTyA (d : D) : List D → Option Bool
  | [] => some false
  | .ty t :: ts => match isTy d t, isTyA d ts with
    | some b, some r => some (b || r)
    | _, _ => none
  | _ :: _ => none
def bIsI : List D → Option D
  | [d, .ty t] => (isTy d t).map .bl
  | [d, .tup ts] => if ts = [] then none else (isTyA d ts).map .bl
  | _ => none
theorem tys_of {k : Kx} {H : Hp} {g : G} {d : D} : ∀ {ts : List D} {vs : List V} {b : Bool}, isTyA d ts = some b → RepL k H g ts vs → ∃ us, Paired ClsV vs us ∧ PySem.W.kitAny k.K (.type (clsName d)) us = some b
  | [], _, b, h, r => by
    cases h
    cases (show _ = [] from r)
    exact ⟨[], .nil, rfl⟩
  | .ty t :: ts, _, b, h, ⟨v, u, h1, h2, h3⟩ => by
    simp only [isTyA] at h
    split at h
    · rename_i b1 b2 e1 e2
      cases h
      obtain ⟨us, p, q⟩ := tys_of e2 h3
      cases h2
      subst h1
      refine ⟨_, .cons (.ty t) p, kitAny_cons (isTy_kit e1) (fun e => ?_) (fun e => ?_)⟩
      · rw [e]; exact q
      · rw [e]; rfl
    · cases h
  | .non :: _, _, _, h, _ => by cases h
  | .bl _ :: _, _, _, h, _ => by cases h
  | .int _ :: _, _, _, h, _ => by cases h
  | .str _ :: _, _, _, h, _ => by cases h
  | .tup _ :: _, _, _, h, _ => by cases h
  | .lst _ :: _, _, _, h, _ => by cases h
  | .obj _ :: _, _, _, h, _ => by cases h
  | .gl _ :: _, _, _, h, _ => by cases h
  | .scr _ :: _, _, _, h, _ => by cases h
section
variable {X : Cx}
theorem bIsI_ok : CallC X (.builtin "isinstance") bIsI := by
  rintro ds res h pins s σ H xs us Q I r ⟨g, S, w, c, q⟩
  unfold bIsI at h
  split at h
  · obtain ⟨b, hb, rfl⟩ := Option.map_eq_some_iff.mp h
    obtain ⟨v, u, rfl, cv, cv'⟩ := c2 c
    cases cv'
    exact call_isi pins s σ H _ us Q I r ⟨v, _, _, _, b, rfl, .ty _, tyX_of hb cv, isTy_kit hb, scalar_fin q w rfl⟩
  · rename_i d ts
    split at h
    · cases h
    · rename_i hne
      obtain ⟨b, hb, rfl⟩ := Option.map_eq_some_iff.mp h
      obtain ⟨v, u, rfl, cv, p, vs, rfl, hs, rr⟩ := c2 c
      obtain ⟨us', hp, hk⟩ := tys_of hb rr
      have ht : TyX X.K H v (.type (clsName d)) := by
        cases ts with
        | nil => exact absurd rfl hne
        | cons t ts =>
          cases t with
          | ty n =>
            simp only [isTyA] at hb
            split at hb
            · rename_i e1 e2; exact tyX_of e1 cv
            · cases hb
          | _ => cases hb
      rcases hs with hs | ⟨⟨⟨oc, od, dt, osl⟩, its, n, hk', hc, hd, hz, hv⟩, _⟩
      · exact call_isiT pins s σ H _ us Q I r ⟨v, p, vs, _, us', b, rfl, hs, hp, ht, hk, scalar_fin q w rfl⟩
      · have hc' : oc = .type "tuple" := hc
        have hd' : dt = .seq its n := hd
        subst hc' hd'
        have e := ClsV.all hp hv
        subst e
        exact call_isiK pins s σ H _ us Q I r ⟨v, p, od, its.toList, n, osl, _, b, rfl, hk', ht, hk, scalar_fin q w rfl⟩
  · cases h
end
end Rf
set_option Elab.async false
set_option linter.all false
set_option maxRecDepth 100000
namespace Rf
open PySem L2 TL
def strsD : List D → Option (List (List Nat))
  | [] => some []
  | .str x :: ds => (strsD ds).map (x :: ·)
  | _ :: _ => none
theorem strsD_v {k : Kx} {H : Hp} {g : G} : ∀ {ds : List D} {vs : List V} {ys : List (List Nat)}, strsD ds = some ys → RepL k H g ds vs → vs = (ys.map fun y => (⟨y.toArray⟩ : Str)).map V.str
  | [], _, _, h, r => by cases h; exact r
  | .str i :: ds, _, ns, h, ⟨v, u, h1, h2, h3⟩ => by
    simp only [strsD, Option.map_eq_some_iff] at h
    obtain ⟨ms, hm, rfl⟩ := h
    cases h2
    rw [h1, strsD_v hm h3] <;> rfl
  | .non :: _, _, _, h, _ => by cases h
  | .int _ :: _, _, _, h, _ => by cases h
  | .bl _ :: _, _, _, h, _ => by cases h
  | .tup _ :: _, _, _, h, _ => by cases h
  | .lst _ :: _, _, _, h, _ => by cases h
  | .obj _ :: _, _, _, h, _ => by cases h
  | .gl _ :: _, _, _, h, _ => by cases h
  | .ty _ :: _, _, _, h, _ => by cases h
  | .scr _ :: _, _, _, h, _ => by cases h
/-- sep.join(parts) -/
def jn (a : List Nat) (ys : List (List Nat)) : Option D := if (ys.map (·.length)).sum + ys.length * a.length ≤ 16777216 then some (.str (joinL a ys)) else none
def oJoin (a : List Nat) : D → Option D
  | .lst ds => (strsD ds).bind (jn a)
  | .tup ds => (strsD ds).bind (jn a)
  | _ => none
def eM1 (o : List Nat → D → Option D) (mo me : EM) : EM := fun L S => (mo L S).bind fun d S1 => match d with
  | .str a => (me L S1).bind fun d2 S2 => lift (o a (deref S2 d2)) S2
  | _ => .no
def eM0 (o : D → Option D) (mo : EM) : EM := fun L S => (mo L S).bind fun d S1 => lift (o d) S1
theorem map_len (ys : List (List Nat)) : (ys.map fun y => (⟨y.toArray⟩ : Str)).map (·.length) = ys.map (·.length) := by
  induction ys with
  | nil => rfl
  | cons y ys ih => rw [List.map_cons, List.map_cons, List.map_cons, ih, mk_len]
theorem map_tl (ys : List (List Nat)) : (ys.map fun y => (⟨y.toArray⟩ : Str)).map tl = ys := by
  induction ys with
  | nil => rfl
  | cons y ys ih => rw [List.map_cons, List.map_cons, ih]
theorem join_mk (a : List Nat) (ys : List (List Nat)) : Txt.join ⟨a.toArray⟩ (ys.map fun y => (⟨y.toArray⟩ : Str)) = ⟨(joinL a ys).toArray⟩ := by
  rw [join_eq, ← mk_tl (Str.join _ _), tl_join, map_tl] <;> rfl
section
variable {X : Cx} {W : WX} {o e : Expr} {mo me : EM} {apos pos : Pos}
theorem se_join (ho : SE X W o mo) (he : SP X W e me) (hs : noStar e = true) (hsup : notSuper o = true) (hl : (apos.endLine == pos.line) = true) : SE X W (.Call (.Attribute o "join" apos) [e] [] pos) (eM1 oJoin mo me) :=
  PE.imp (pe_join ho he (star_cons hs) (not_super hsup) hl) fun σ H Q ⟨L, S, g, l, w, p⟩ => ⟨L, S, g, l, w, Post.bind p fun d S1 v H1 g1 e1 w1 r1 p1 => by
    cases d with
    | str a =>
      cases r1
      refine ⟨⟨_, rfl⟩, L, S1, g1, l.ext e1, w1, Post.bind p1 fun d2 S2 v2 H2 g2 e2 w2 r2 p2 => ?_⟩
      have c := r2.c ((l.ext e1).ext e2) w2
      have key : ∀ (q : Addr) (ys : List (List Nat)), (SqL X.K H2 q ((ys.map fun y => (⟨y.toArray⟩ : Str)).map V.str) ∨ SqT X.K H2 q ((ys.map fun y => (⟨y.toArray⟩ : Str)).map V.str)) → v2 = .ref q →
          Post (kx X) (Rep (kx X)) H2 g2 (fun c d => W c d σ) (lift (jn a ys) S2) Q →
          ∃ a' p, ∃ ys' : List Str, V.str ⟨a.toArray⟩ = .str a' ∧ [v2] = [.ref p] ∧ (SqL X.K H2 p (ys'.map V.str) ∨ SqT X.K H2 p (ys'.map V.str)) ∧ (ys'.map (·.length)).sum + ys'.length * a'.length ≤ 16777216 ∧ Q (.str (Txt.join a' ys')) H2 := by
        intro q ys hq hv hp
        subst hv
        unfold jn at hp
        by_cases hz : (ys.map (·.length)).sum + ys.length * a.length ≤ 16777216
        · rw [if_pos hz] at hp
          exact ⟨_, q, _, rfl, rfl, hq, by rw [map_len, List.length_map, mk_len]; exact hz, by rw [join_mk]; exact Post.ret hp w2 rfl⟩
        · rw [if_neg hz] at hp
          exact hp.elim
      cases q2 : deref S2 d2 with
      | lst ds =>
        rw [q2] at p2 c
        obtain ⟨q, vs, hv, hq, rr⟩ := c
        have p3 : Post (kx X) (Rep (kx X)) H2 g2 (fun c d => W c d σ) (lift ((strsD ds).bind (jn a)) S2) Q := p2
        cases hs : strsD ds with
        | none => rw [hs] at p3; exact p3.elim
        | some ys =>
          rw [hs] at p3
          rw [strsD_v hs rr] at hq
          exact key q ys (.inl (SqL.of hq)) hv p3
      | tup ds =>
        rw [q2] at p2 c
        obtain ⟨q, vs, hv, hq, rr⟩ := c
        have p3 : Post (kx X) (Rep (kx X)) H2 g2 (fun c d => W c d σ) (lift ((strsD ds).bind (jn a)) S2) Q := p2
        cases hs : strsD ds with
        | none => rw [hs] at p3; exact p3.elim
        | some ys =>
          rw [hs] at p3
          rw [strsD_v hs rr] at hq
          exact key q ys (.inr hq.sq) hv p3
      | _ => rw [q2] at p2; exact p2.elim
    | _ => exact p1.elim⟩
end
abbrev Fn := List D → Sto → R D
/-- the promise of a def that does c -/
def spC (k : Kx) (c : Fn) : Sp := fun vs H Q E => ∃ ds S g, RepL k H g ds vs ∧ WF k H g S ∧ Post k (Rep k) H g E (c ds S) Q
theorem spC.kc {k k' : Kx} {c : Fn} {vs : List V} {H : Hp} {Q : VK} {E : XK} (h1 : k'.K = k.K) (h2 : k'.mg = k.mg) (h3 : k'.w = k.w) (h : spC k c vs H Q E) : spC k' c vs H Q E := by
  obtain ⟨ds, S, g, r, w, p⟩ := h
  exact ⟨ds, S, g, RepL.kc h1 h2 _ _ r, w.kc h1 h2 h3, p.kc h1 h2 h3⟩
structure RoomG (k : Nat) (A : Around) : Prop extends Room k A where
  gd : A.guards = some []
theorem RoomG.mono {j k : Nat} {A : Around} (r : RoomG k A) (h : j ≤ k) : RoomG j A := ⟨r.toRoom.mono h, r.gd⟩
theorem RoomG.deeper {k : Nat} {A : Around} (r : RoomG (k + 1) A) (env : Env) : RoomG k (A.deeper env) := ⟨r.toRoom.deeper env, r.gd⟩
/-- a def's promise where no repr is under way -/
structure FnOkG (P : Program) (w : World) (K : PySem.W.Frag) (mg : Str → Option Value) (base : Heap) (CX : CXT) (k : Nat) (f : Addr) (fd : FuncData) (ps : List Str) (sp : Sp) : Prop where
  len : ∀ vs H Q E, sp vs H Q E → vs.length = ps.length
  run : ∀ (A : Around) (outer : List Env) (s : Shared) (H : Hp) (args : Args) (us : List Value) (vs : List V) (Q : VK) (E : XK), RoomG k A → Env0 P w K mg base A outer s H → BindsTo s fd args (ps.zip us) → Vals vs us → sp vs H Q E →
    codeAny (model P w) A (.call (.ref f) args) (CR CX outer P w H s Q E) s
section
variable {X : Cx} {CX : CXT} {k n : Nat} {f C : Addr} {fd : FuncData} {ps ks : List Str} {sp : Sp} {dvs : List V} {ds : List Value} {E : L2.St → XK} {E0 : XK} {x : Str} {p pos : Pos} {e : Expr} {es : List Expr} {kws : List Keyword} {t tk : TA} {g : List Value → List Value → List Value} {gV : List V → List V → List V}
/-- what a call comes to, whatever binds -/
theorem run_any {pins : List (Addr × Obj)} {σ : L2.St} {H : Hp} {s : Shared} {Q : VK} {args : Args} {us : List Value} {vs : List V} (F : FnOkG X.prog X.w X.K X.mg X.base CX k f fd ps sp) (hr : RoomG k X.A) (hx : PassesAt CX X σ E0)
    (I : Inv X pins σ H s) (b : BindsTo s fd args (ps.zip us)) (r : Vals vs us) (h : sp vs H Q E0) : wpAny (model X.prog X.w) X.A (call (.ref f) args.pos args.kw) (EP X pins σ Q) X.xe s := by
  refine wpAny_call (codeAny_mono (F.run X.A X.stack s H args us vs Q E0 hr I.env0 b r h) fun r s' hq => ?_)
  match r, hq with
  | .error e, hq => exact hx pins H s e s' I hq
  | .ok (.ret u), hq => exact I.after hq
theorem run_fnG {pins : List (Addr × Obj)} {σ : L2.St} {H : Hp} {s : Shared} {Q : VK} {us : List Value} {vs : List V} (F : FnOkG X.prog X.w X.K X.mg X.base CX k f fd ps sp) (hr : RoomG k X.A) (hb : Binds X.K fd ps ds) (hd : Vals dvs ds) (hx : PassesAt CX X σ E0)
    (I : Inv X pins σ H s) (r : Vals vs us) (h : sp (vs ++ dvs) H Q E0) : wpAny (model X.prog X.w) X.A (call (.ref f) us) (EP X pins σ Q) X.xe s :=
  run_any F hr hx I (hb s us I.kIn (by rw [← (r.append hd).length]; exact F.len _ _ _ _ h)) (r.append hd) h
theorem run_fnG0 {pins : List (Addr × Obj)} {σ : L2.St} {H : Hp} {s : Shared} {Q : VK} {us : List Value} {vs : List V} (F : FnOkG X.prog X.w X.K X.mg X.base CX k f fd ps sp) (hr : RoomG k X.A) (hb : Binds X.K fd ps []) (hx : PassesAt CX X σ E0)
    (I : Inv X pins σ H s) (r : Vals vs us) (h : sp vs H Q E0) : wpAny (model X.prog X.w) X.A (call (.ref f) us) (EP X pins σ Q) X.xe s :=
  run_fnG (dvs := []) F hr hb .nil hx I r (by rw [List.append_nil]; exact h)
theorem pe_callG (F : FnOkG X.prog X.w X.K X.mg X.base CX k f fd ps sp) (hr : RoomG k X.A) (hg : Gl X x) (hm : X.mg x = some (.ref f)) (hk : PySem.W.keepIn X.K (.ref f) = true) (hb : Binds X.K fd ps ds) (hd : Vals dvs ds) (hx : ∀ σ, PassesAt CX X σ (E σ))
    (ha : PA X (e :: es) t) (hdb : (x == ("__debug__" : Str)) = false) (he : starEach (e :: es) X.env = (false, eval e X.env) :: starEach es X.env) (hpl : (backTo pos (starEach es X.env)).any (·.1) = false) :
    PE X (.Call (.Name x p) (e :: es) [] pos) (tCallSD sp dvs E t) :=
  ⟨fun pins s σ H Q I h => wpAny_Call_Name_kw (ld_glob I hg hm (PySem.W.callWith_K (h₀ := X.base) I.ok.mod.kin hk (thn (ha.run pos pins s σ H _ I h) fun us s1 ⟨vs, H1, I1, r, q⟩ => ⟨I1.kIn, run_fnG F hr hb hd (hx σ) I1 r q⟩) he hpl) hdb)⟩
end
/-- the name x stands for a def that does c -/
def FnAt (X : Cx) (x : Str) (c : Fn) : Prop := ∃ (j : Nat) (f : Addr) (fd : FuncData) (ps : List Str), FnOkG X.prog X.w X.K X.mg X.base (L2.CX X.prog X.w) j f fd ps (spC (k0 X.K X.mg X.w) c) ∧ RoomG j X.A ∧
  X.mg x = some (.ref f) ∧ PySem.W.keepIn X.K (.ref f) = true ∧ Binds X.K fd ps []
def eFn (c : Fn) (ma : Ls → Sto → R (List D)) : EM := fun L S => (ma L S).bind c
section
variable {X : Cx} {W : WX} {e : Expr} {es : List Expr} {x : Str} {p pos : Pos} {c : Fn} {ma : Ls → Sto → R (List D)}
theorem se_call (F : FnAt X x c) (hg : Gl X x) (tk : Takes X W) (ha : SAE X W (e :: es) ma) (hs : (e :: es).all noStar = true) (hdb : (x == ("__debug__" : Str)) = false) : SE X W (.Call (.Name x p) (e :: es) [] pos) (eFn c ma) := by
  obtain ⟨j, f, fd, ps, F, hr, hm, hk, hb⟩ := F
  have hs' : noStar e = true ∧ es.all noStar = true := by rwa [List.all_cons, Bool.and_eq_true] at hs
  exact PE.imp (pe_callG (dvs := []) F hr hg hm hk hb .nil (fun σ => passAt tk σ) ha hdb (star_cons hs'.1) (star_any hs'.2)) fun σ H Q ⟨L, S, g, l, w, p⟩ => ⟨L, S, g, l, w, Post.bind p fun ds S1 vs H1 g1 e1 w1 r1 p1 => by
    rw [List.append_nil]
    exact spC.kc (k := kx X) rfl rfl rfl ⟨ds, S1, g1, r1, w1, p1⟩⟩
end
end Rf
set_option Elab.async false
set_option linter.all false
set_option maxRecDepth 100000
namespace Rf
open PySem L2 TL
section
open PySem.Spec PyProof.Rows
theorem en_new (v : Value) (o : Obj) (Hh : Heap → Prop) (B : Begins v o Hh) :
    Meets (Builtin.«enumerate.__new__» ⟨[.type "enumerate", v], []⟩) fun _ R s => Hh s.heap ∧ R (.ok (.ret (.ref (s.heap.push o).objs.size)))
      { s with heap := (s.heap.push o).push { cls := .type "enumerate", data := .fields #[.none, .bool false, .ref s.heap.objs.size, rawInt 0, .none, .none] } } :=
  Meets.of_wp fun prog w A R s h => by
    obtain ⟨hp, gs, dr, tk, os⟩ := s
    obtain ⟨h1, h2⟩ := h
    have sube := sub_enumerate
    have go : ∀ {A' : Around} {E Q : Value → Shared → Prop}, Q (.ref hp.objs.size) ⟨hp.push o, gs, dr, tk, os⟩ → wpAny (model prog w) A' (pyIter v) Q E ⟨hp, gs, dr, tk, os⟩ := fun q => B.iter prog w _ _ _ _ h1 q
    wp_walk using go
    refine wpAny_stack_any fun st => wpAny_pure ?_
    split
    · rename_i c _ _ _ _ _
      cases (c == Value.type "enumerate") <;> (wp_walk using go; exact ⟨_, rfl, h2⟩)
    · wp_walk using go
      exact ⟨_, rfl, h2⟩
theorem en_call {prog : Program} {w : World} {A : Around} {E : Value → Shared → Prop} {s : Shared} {v : Value} {o : Obj} {Hh : Heap → Prop} {Q : Value → Shared → Prop} (B : Begins v o Hh) (h1 : Hh s.heap)
    (h : ∀ h', IsEnum h' (s.heap.objs.size + 1) s.heap.objs.size 0 .none → h'.get? s.heap.objs.size = some o → (∀ b o', s.heap.get? b = some o' → h'.get? b = some o') → Q (.ref (s.heap.objs.size + 1)) { s with heap := h' }) :
    wpAny (model prog w) A (call (.type "enumerate") [v]) Q E s := by
  refine callType_new F.called_enumerate (by decide) (F.typeCall_enumerate_1 _) (F.newCall_enumerate_1 _) (fun obj => F.args_object_init_2 obj _) F.entry_enumerate_new (en_new v o Hh B) ⟨h1, ?_⟩
  have hz : (s.heap.push o).objs.size = s.heap.objs.size + 1 := Heap.size_push ..
  show _ ∧ _
  rw [hz]
  have he : IsEnum ((s.heap.push o).push { cls := .type "enumerate", data := .fields #[.none, .bool false, .ref s.heap.objs.size, rawInt 0, .none, .none] }) (s.heap.objs.size + 1) s.heap.objs.size 0 .none := by
    have q := Heap.get?_push_size (s.heap.push o) (o := { cls := .type "enumerate", data := .fields #[.none, .bool false, .ref s.heap.objs.size, rawInt 0, .none, .none] }) rfl
    rwa [hz] at q
  exact ⟨⟨_, he, rfl⟩, h _ he (Heap.get?_push_of_some _ (Heap.get?_push_size _ B.free)) fun b o' x => Heap.get?_push_of_some _ (Heap.get?_push_of_some _ x)⟩
def IteT (K : PySem.W.Frag) (a : Addr) : It :=
  ⟨fun i H => ∃ (xs : List V) (x : V), SqT K H a xs ∧ xs[i]? = some x, fun i H v H' => ∃ T x, v = .ref T ∧ H T = none ∧ H' = upd H T (.tup [.int (i : Nat), x]) ∧ ∀ xs, SqT K H a xs → xs[i]? = some x, fun i H => ∃ xs : List V, SqT K H a xs ∧ xs.length = i⟩
theorem turn_enumT {P : Program} {w : World} {K : PySem.W.Frag} {elts : List Expr} {kk : Nat} {tpos : Pos} (a e it : Addr) :
    Turn P w K (.Tuple elts kk tpos) (IteT K a) [e, it] e (fun i h => (∃ old, IsEnum h e it ((i : Nat) : Int) old) ∧ h.IsTupleIter it a i ∧ e ≠ it ∧ a ≠ it ∧ a ≠ e) where
  mem := by simp
  obj := fun i h st b hb => by
    obtain ⟨⟨old, he⟩, ⟨o, ho, hc, hd⟩, _⟩ := st
    rcases (show b = e ∨ b = it by simpa using hb) with rfl | rfl
    · exact ⟨_, he, fun v q => nomatch q⟩
    · exact ⟨o, ho, fun v q => by rw [hd] at q; cases q⟩
  keep := fun i h h' st k => let ⟨⟨old, he⟩, hi, hne⟩ := st; ⟨⟨old, k e (by simp) _ he⟩, hi.at fun o q => k it (by simp) o q, hne⟩
  item := by
    intro X hP hw hK hc i pins s σ H E I hf st hg
    subst hP hw hK
    obtain ⟨⟨old, he⟩, hit, hne, hai, hae⟩ := st
    obtain ⟨xs, x, hq, hx⟩ := hg
    obtain ⟨its, rv, p, hz⟩ := I.tuple hq
    obtain ⟨u, hu, ru⟩ := rv.get hx
    have hel : e < s.heap.objs.size := Heap.lt_size he
    have hil : it < s.heap.objs.size := by obtain ⟨_, q, _⟩ := hit; exact Heap.lt_size q
    have hlt : i < its.toArray.size := by
      have := (List.getElem?_eq_some_iff.mp hu).1
      simpa using this
    have D := Draws.tuple (prog := X.prog) (w := X.w) (A := X.A.in1) (I.ok.hd hc) it a hai its.toArray
    refine wpAny_pyNext_enum_itemD D he ⟨hit, show s.heap.IsTuple a its.toArray from p⟩ hlt hne (by simp [hne, Ne.symm hae]) fun y h' tk hP ho hst' hT hsz hk => ?_
    have hy : y = u := by
      have hP' : its.toArray[i]? = some y := hP
      have : its[i]? = some y := by simpa using hP'
      rw [hu] at this
      exact (Option.some.inj this).symm
    subst hy
    refine ⟨_, rfl, wpAny_letOwnedTupleGo_enum (s := { s with heap := h', toks := tk + 1 }) ho fun h'' he' sb => ?_⟩
    have hT2 : h''.get? s.heap.objs.size = some { cls := .type "tuple", data := .seq #[.int i tk, y] } := (sb.2 _ (Nat.ne_of_gt hel)).trans hT
    have new : ObjOk X.prog X.w (upd H s.heap.objs.size (.tup [.int (i : Nat), x])) h'' s.heap.objs.size (.tup [.int (i : Nat), x]) :=
      ⟨by show 2 ≤ sizeLine; decide, [.int i tk, y], .cons ⟨_, rfl⟩ (.cons ru .nil), ⟨_, hT2, rfl, _, rfl⟩⟩
    have I1 : Inv X pins σ (upd H s.heap.objs.size (.tup [.int (i : Nat), x])) { s with heap := h'', toks := tk + 1 } :=
      I.turnedNew (ch := [e, it]) (fun b ob hb q => (sb.2 b (fun z => hb (by simp [z]))).trans (hk b ob (fun z => hb (by simp [z])) (fun z => hb (by simp [z])) q)) hf (Nat.le_refl _) new
    refine ⟨.ref s.heap.objs.size, _, I1, rfl, ⟨_, x, rfl, I.hok.fresh (Nat.le_refl _), rfl, fun ys hy => by rw [I.tuple_inj hy hq]; exact hx⟩, ⟨⟨y, ?_⟩, hst'.1.at fun o q => (sb.2 it (Ne.symm hne)).trans q, hne, hai, hae⟩, fun b hb => ?_⟩
    · rw [show ((i + 1 : Nat) : Int) = (i : Int) + 1 by omega]; exact he'
    · have hb' : b < s.heap.objs.size := by
        rcases (show b = e ∨ b = it by simpa using hb) with z | z
        · rw [z]; exact hel
        · rw [z]; exact hil
      rw [upd_ne (Nat.ne_of_lt hb')]
      exact (hf b hb).1
  done := by
    intro X hP hw hK hc i pins s σ H E I hf st hg
    subst hP hw hK
    obtain ⟨⟨old, he⟩, hit, hne, hai, hae⟩ := st
    obtain ⟨xs, hq, hx⟩ := hg
    obtain ⟨its, rv, p, hz⟩ := I.tuple hq
    obtain ⟨f0, f1, f2, f3, f4, f5⟩ := hf it (by simp)
    have hl := rv.length
    have en : i = its.toArray.size := by rw [List.size_toArray, ← hl, hx]
    subst en
    have D := Draws.tuple (prog := X.prog) (w := X.w) (A := X.A.in1) (I.ok.hd hc) it a hai its.toArray
    exact wpAny_pyNext_enum_endD D he ⟨hit, show s.heap.IsTuple a its.toArray from p⟩ fun h' eb => ⟨rfl, I.turned (t' := s.toks) (fun b o hb q => eb b o hb q) f0 f1 f3 f4 f5⟩
  self := fun A i s Q E st h => let ⟨⟨_, he⟩, _⟩ := st; wpAny_pyIter_enum he h
def iEnT (K : PySem.W.Frag) (ta : TA) : TI := fun σ H R => ta σ H fun vs H1 => ∃ a xs, vs = [.ref a] ∧ ((SqL K H1 a xs ∧ R (Ite K a) H1) ∨ (SqT K H1 a xs ∧ R (IteT K a) H1))
theorem pi_enT {X : Cx} {e : Expr} {ta : TA} {p pos tpos : Pos} {elts : List Expr} {kk : Nat} (hg : Gl X "enumerate") (hm : X.mg "enumerate" = none) (ha : PA X [e] ta) (hs : starEach [e] X.env = [(false, eval e X.env)]) :
    PI X (.Tuple elts kk tpos) (.Call (.Name "enumerate" p) [e] [] pos) (iEnT X.K ta) := by
  refine ⟨fun pins s σ H R I h => ?_⟩
  refine Call_ (ld_blt I hg hm boot_enumerate (PyProof.Rows.callWith_type1 (thn (ha.run pos pins s σ H _ I h) fun us s1 ⟨vs, H1, I1, r1, q1⟩ => ?_) hs rfl))
  obtain ⟨a, xs, ex, q1⟩ := q1
  subst ex
  obtain ⟨u, rfl, hu⟩ := vals1 r1
  cases hu
  have fr : ∀ b ∈ [s1.heap.objs.size + 1, s1.heap.objs.size], FpOk X pins H1 b := fun b hb => by
    have hle : s1.heap.objs.size ≤ b := by
      rcases (show b = s1.heap.objs.size + 1 ∨ b = s1.heap.objs.size by simpa using hb) with rfl | rfl
      · exact Nat.le_succ _
      · exact Nat.le_refl _
    exact I1.fpOk hle (I1.hok.fresh hle)
  rcases q1 with ⟨hq, q⟩ | ⟨hq, q⟩
  · obtain ⟨its, rv, p', hz⟩ := I1.list hq
    refine call_enumerate_list p'.isList fun h' he hit hsz hk => wpAny_pyIter_enum he ?_
    exact ⟨_, _, _, _, H1, rfl, I1.kept (h' := h') (t' := s1.toks) hk, turn_enum a (s1.heap.objs.size + 1) s1.heap.objs.size, ⟨⟨.none, he⟩, hit, Nat.succ_ne_self _⟩, fr, q⟩
  · obtain ⟨its, rv, p', hz⟩ := I1.tuple hq
    refine en_call (begins_tuple a its.toArray) (show s1.heap.IsTuple a its.toArray from p') fun h' he ho hk => wpAny_pyIter_enum he ?_
    have hl := p'.lt
    exact ⟨_, _, _, _, H1, rfl, I1.kept (h' := h') (t' := s1.toks) hk, turn_enumT a (s1.heap.objs.size + 1) s1.heap.objs.size, ⟨⟨.none, he⟩, ⟨_, ho, rfl, rfl⟩, Nat.succ_ne_self _, Nat.ne_of_lt hl, Nat.ne_of_lt (Nat.lt_succ_of_lt hl)⟩, fr, q⟩
end
/-- the lists of the store that must stay as they are -/
abbrev Dep := Option (List (Nat × List D))
def DepC (S : Sto) (l : List (Nat × List D)) : Prop := ∀ p ∈ l, S[p.1]? = some (.lst p.2)
abbrev Src := List D × Dep
def DepOk (S : Sto) (ds : List D) : Dep → Prop
  | none => True
  | some l => DepC S l
/-- whatever has gone on by Rl, the walk yields the items -/
def Yields (k : Kx) (Rl : Hp → G → Hp → G → Prop) (J : It) (H : Hp) (g : G) (ds : List D) (dep : Dep) : Prop :=
  ∀ H2 g2 S2 i, Rl H g H2 g2 → WF k H2 g2 S2 → DepOk S2 ds dep → (ds.length = i → J.stop i H2) ∧
    ∀ d, ds[i]? = some d → J.go i H2 ∧ ∀ x H3, J.yld i H2 x H3 → Ext H2 g2 H3 g2 ∧ WF k H3 g2 S2 ∧ Rep k H3 g2 d x
/-- a relation that keeps what stands -/
def Rl1 (Rl : Hp → G → Hp → G → Prop) : Prop := ∀ H g H' g', Rl H g H' g' → PExt H g H' g'
section
variable {k : Kx} {Rl : Hp → G → Hp → G → Prop} {H : Hp} {g : G} {S : Sto} {a : Addr} {vs : List V} {ds : List D}
theorem yl_list (hR : Rl1 Rl) (hk : ∀ H2 g2, Rl H g H2 g2 → H2 a = some (.lst vs)) (r : RepL k H g ds vs) : Yields k Rl (Itl k.K a) H g ds none := fun H2 g2 S2 i rl w _ => by
  have h2 : SqL k.K H2 a vs := SqL.of (hk H2 g2 rl)
  refine ⟨fun e => ⟨vs, h2, by rw [r.length, e]; exact Nat.le_refl _⟩, fun d hd => ?_⟩
  obtain ⟨v, hv, rv⟩ := r.get hd
  refine ⟨⟨vs, v, h2, hv⟩, fun x H3 ⟨e, y⟩ => ?_⟩
  subst e
  have := y vs h2
  rw [hv] at this
  cases this
  exact ⟨Ext.refl _ _, w, rv.mono (hR _ _ _ _ rl) _ _⟩
theorem yl_obj {n : Nat} (hR : Rl1 Rl) (hn : n < g.n) : Yields k Rl (Itl k.K (g.ρ n)) H g ds (some [(n, ds)]) := fun H2 g2 S2 i rl w dep => by
  obtain ⟨us, h2, r⟩ := w.ob n _ (dep (n, ds) (List.mem_singleton.mpr rfl))
  rw [(hR _ _ _ _ rl).ρ n hn] at h2
  have h3 : SqL k.K H2 (g.ρ n) us := SqL.of h2
  refine ⟨fun e => ⟨us, h3, by rw [r.length, e]; exact Nat.le_refl _⟩, fun d hd => ?_⟩
  obtain ⟨v, hv, rv⟩ := r.get hd
  refine ⟨⟨us, v, h3, hv⟩, fun x H3 ⟨e, y⟩ => ?_⟩
  subst e
  have := y us h3
  rw [hv] at this
  cases this
  exact ⟨Ext.refl _ _, w, rv⟩
theorem yl_scr {ns : List Int} (hR : Rl1 Rl) (h : ScrAt k.K H a (ns.map V.int)) : Yields k Rl (Itl k.K a) H g (ns.map .int) none := fun H2 g2 S2 i rl w _ => by
  have h2 : SqL k.K H2 a (ns.map V.int) := (scrAt_mono (k := k) (hR _ _ _ _ rl) h).sq
  have r : RepL k H g (ns.map .int) (ns.map V.int) := RepL.ints ns
  refine ⟨fun e => ⟨_, h2, by rw [r.length, e]; exact Nat.le_refl _⟩, fun d hd => ?_⟩
  obtain ⟨v, hv, rv⟩ := r.get hd
  refine ⟨⟨_, v, h2, hv⟩, fun x H3 ⟨e, y⟩ => ?_⟩
  subst e
  have := y _ h2
  rw [hv] at this
  cases this
  exact ⟨Ext.refl _ _, w, rv.mono (hR _ _ _ _ rl) _ _⟩
theorem yl_tup (hR : Rl1 Rl) (h : TupAt k.K H a vs) (r : RepL k H g ds vs) : Yields k Rl (Itt k.K a) H g ds none := fun H2 g2 S2 i rl w _ => by
  have h2 : SqT k.K H2 a vs := (tupAt_mono (k := k) (hR _ _ _ _ rl) h).sq
  refine ⟨fun e => ⟨vs, h2, by rw [r.length, e]; exact Nat.le_refl _⟩, fun d hd => ?_⟩
  obtain ⟨v, hv, rv⟩ := r.get hd
  refine ⟨⟨vs, v, h2, hv⟩, fun x H3 ⟨e, y⟩ => ?_⟩
  subst e
  have := y vs h2
  rw [hv] at this
  cases this
  exact ⟨Ext.refl _ _, w, rv.mono (hR _ _ _ _ rl) _ _⟩
def strI (x : List Nat) : List D := x.map fun c => .str [c]
theorem yl_str {x : List Nat} : Yields k Rl (Its ⟨x.toArray⟩) H g (strI x) none := fun H2 g2 S2 i rl w _ => by
  refine ⟨fun e => ?_, fun d hd => ?_⟩
  · show (⟨x.toArray⟩ : Str).cps.size ≤ i
    rw [← e]
    simp [strI]
  · unfold strI at hd
    rw [List.getElem?_map, Option.map_eq_some_iff] at hd
    obtain ⟨c, hc, rfl⟩ := hd
    have hi := (List.getElem?_eq_some_iff.mp hc).1
    refine ⟨by show i < (⟨x.toArray⟩ : Str).cps.size; simpa using hi, fun v H3 ⟨e, c', hc', ev⟩ => ?_⟩
    subst e
    have : x[i]? = some c' := by simpa using hc'
    rw [hc] at this
    cases this
    exact ⟨Ext.refl _ _, w, ev⟩
def rngI (lo : Int) (n : Nat) : List D := (List.range n).map fun (i : Nat) => .int (lo + i)
theorem yl_rng {lo : Int} {n : Nat} : Yields k Rl (Itr lo n) H g (rngI lo n) none := fun H2 g2 S2 i rl w _ => by
  refine ⟨fun e => ?_, fun d hd => ?_⟩
  · show n ≤ i
    rw [← e]
    simp [rngI]
  · unfold rngI at hd
    rw [List.getElem?_map, Option.map_eq_some_iff] at hd
    obtain ⟨c, hc, rfl⟩ := hd
    obtain ⟨hi, ec⟩ := List.getElem?_eq_some_iff.mp hc
    rw [List.length_range] at hi
    rw [List.getElem_range] at ec
    subst ec
    refine ⟨hi, fun v H3 ⟨e, ev⟩ => ?_⟩
    subst e
    exact ⟨Ext.refl _ _, w, ev⟩
def pairI (ds es : List D) : List D := (ds.zip es).map fun p => .tup [p.1, p.2]
def enI (ds : List D) : List D := pairI (rngI 0 ds.length) ds
theorem pair_at {ds es : List D} {i : Nat} {d : D} (h : (pairI ds es)[i]? = some d) : ∃ a b, ds[i]? = some a ∧ es[i]? = some b ∧ d = .tup [a, b] := by
  unfold pairI at h
  rw [List.getElem?_map, Option.map_eq_some_iff] at h
  obtain ⟨⟨a, b⟩, hp, rfl⟩ := h
  rw [List.getElem?_zip_eq_some] at hp
  exact ⟨a, b, hp.1, hp.2, rfl⟩
theorem pair_new {H2 : Hp} {g2 : G} {S2 : Sto} {T : Addr} {a b : D} {x y : V} (w : WF k H2 g2 S2) (hT : H2 T = none) (ra : Rep k H2 g2 a x) (rb : Rep k H2 g2 b y) :
    Ext H2 g2 (upd H2 T (.tup [x, y])) g2 ∧ WF k (upd H2 T (.tup [x, y])) g2 S2 ∧ Rep k (upd H2 T (.tup [x, y])) g2 (.tup [a, b]) (.ref T) :=
  ⟨Ext.new hT, w.new hT, T, [x, y], rfl, .inl upd_same, x, [y], rfl, ra.mono (Ext.new hT).toPExt _ _, y, [], rfl, rb.mono (Ext.new hT).toPExt _ _, rfl⟩
theorem rngI_at {lo : Int} {n i : Nat} {a : D} (h : (rngI lo n)[i]? = some a) : a = .int (lo + i) := by
  unfold rngI at h
  rw [List.getElem?_map, Option.map_eq_some_iff] at h
  obtain ⟨c, hc, rfl⟩ := h
  obtain ⟨hi, ec⟩ := List.getElem?_eq_some_iff.mp hc
  rw [List.getElem_range] at ec
  rw [← ec]
theorem enI_len (ds : List D) : (enI ds).length = ds.length := by simp [enI, pairI, rngI]
theorem pairI_len (ds es : List D) : (pairI ds es).length = min ds.length es.length := by simp [pairI]
theorem yl_enum (hR : Rl1 Rl) (hk : ∀ H2 g2, Rl H g H2 g2 → SqL k.K H2 a vs) (r : RepL k H g ds vs) : Yields k Rl (Ite k.K a) H g (enI ds) none := fun H2 g2 S2 i rl w _ => by
  have h2 := hk H2 g2 rl
  refine ⟨fun e => ⟨vs, h2, by rw [r.length, ← e, enI_len]; exact Nat.le_refl _⟩, fun d hd => ?_⟩
  obtain ⟨p, q, h3, h4, rfl⟩ := pair_at hd
  obtain ⟨v, hv, rv⟩ := r.get h4
  refine ⟨⟨vs, v, h2, hv⟩, fun x H3 ⟨T, y, ex, hT, eH, hy⟩ => ?_⟩
  subst ex eH
  have := hy vs h2
  rw [hv] at this
  cases this
  exact pair_new w hT (by rw [rngI_at h3, Int.zero_add]; rfl) (rv.mono (hR _ _ _ _ rl) _ _)
theorem yl_enumT (hR : Rl1 Rl) (h : TupAt k.K H a vs) (r : RepL k H g ds vs) : Yields k Rl (IteT k.K a) H g (enI ds) none := fun H2 g2 S2 i rl w _ => by
  have h2 : SqT k.K H2 a vs := (tupAt_mono (k := k) (hR _ _ _ _ rl) h).sq
  refine ⟨fun e => ⟨vs, h2, by rw [r.length, ← e, enI_len]⟩, fun d hd => ?_⟩
  obtain ⟨p, q, h3, h4, rfl⟩ := pair_at hd
  obtain ⟨v, hv, rv⟩ := r.get h4
  refine ⟨⟨vs, v, h2, hv⟩, fun x H3 ⟨T, y, ex, hT, eH, hy⟩ => ?_⟩
  subst ex eH
  have := hy vs h2
  rw [hv] at this
  cases this
  exact pair_new w hT (by rw [rngI_at h3, Int.zero_add]; rfl) (rv.mono (hR _ _ _ _ rl) _ _)
theorem yl_zip {b : Addr} {us : List V} {es : List D} (hR : Rl1 Rl) (hk : ∀ H2 g2, Rl H g H2 g2 → SqL k.K H2 a vs) (hk' : ∀ H2 g2, Rl H g H2 g2 → SqL k.K H2 b us) (r : RepL k H g ds vs) (r' : RepL k H g es us) : Yields k Rl (Itz k.K a b) H g (pairI ds es) none := fun H2 g2 S2 i rl w _ => by
  have h2 := hk H2 g2 rl
  have h2' := hk' H2 g2 rl
  refine ⟨fun e => ⟨vs, us, h2, h2', ?_⟩, fun d hd => ?_⟩
  · rw [pairI_len] at e
    rw [r.length, r'.length]
    omega
  obtain ⟨p, q, h3, h4, rfl⟩ := pair_at hd
  obtain ⟨v, hv, rv⟩ := r.get h3
  obtain ⟨u, hu, ru⟩ := r'.get h4
  refine ⟨⟨vs, us, v, u, h2, h2', hv, hu⟩, fun x H3 ⟨T, y, z, ex, hT, eH, hy, hz⟩ => ?_⟩
  subst ex eH
  have e1 := hy vs h2
  have e2 := hz us h2'
  rw [hv] at e1; rw [hu] at e2
  cases e1; cases e2
  exact pair_new w hT (rv.mono (hR _ _ _ _ rl) _ _) (ru.mono (hR _ _ _ _ rl) _ _)
theorem yl_enumO {n : Nat} (hR : Rl1 Rl) (hn : n < g.n) : Yields k Rl (Ite k.K (g.ρ n)) H g (enI ds) (some [(n, ds)]) := fun H2 g2 S2 i rl w dep => by
  obtain ⟨us, h2, r⟩ := w.ob n _ (dep (n, ds) (List.mem_singleton.mpr rfl))
  rw [(hR _ _ _ _ rl).ρ n hn] at h2
  have h3 : SqL k.K H2 (g.ρ n) us := SqL.of h2
  refine ⟨fun e => ⟨us, h3, by rw [r.length, ← e, enI_len]; exact Nat.le_refl _⟩, fun d hd => ?_⟩
  obtain ⟨p, q, h5, h4, rfl⟩ := pair_at hd
  obtain ⟨v, hv, rv⟩ := r.get h4
  refine ⟨⟨us, v, h3, hv⟩, fun x H3 ⟨T, y, ex, hT, eH, hy⟩ => ?_⟩
  subst ex eH
  have := hy us h3
  rw [hv] at this
  cases this
  exact pair_new w hT (by rw [rngI_at h5, Int.zero_add]; rfl) rv
theorem yl_zipO {n m : Nat} {es : List D} (hR : Rl1 Rl) (hn : n < g.n) (hm : m < g.n) : Yields k Rl (Itz k.K (g.ρ n) (g.ρ m)) H g (pairI ds es) (some [(n, ds), (m, es)]) := fun H2 g2 S2 i rl w dep => by
  obtain ⟨us, h2, r⟩ := w.ob n _ (dep (n, ds) (List.mem_cons_self ..))
  obtain ⟨vs, h2', r'⟩ := w.ob m _ (dep (m, es) (List.mem_cons_of_mem _ (List.mem_singleton.mpr rfl)))
  rw [(hR _ _ _ _ rl).ρ n hn] at h2
  rw [(hR _ _ _ _ rl).ρ m hm] at h2'
  replace r : RepL k H2 g2 ds us := r
  replace r' : RepL k H2 g2 es vs := r'
  have h5 : SqL k.K H2 (g.ρ n) us := SqL.of h2
  have h6 : SqL k.K H2 (g.ρ m) vs := SqL.of h2'
  refine ⟨fun e => ⟨us, vs, h5, h6, ?_⟩, fun d hd => ?_⟩
  · rw [pairI_len] at e
    rw [r.length, r'.length]
    omega
  obtain ⟨p, q, h3, h4, rfl⟩ := pair_at hd
  obtain ⟨v, hv, rv⟩ := r.get h3
  obtain ⟨u, hu, ru⟩ := r'.get h4
  refine ⟨⟨us, vs, v, u, h5, h6, hv, hu⟩, fun x H3 ⟨T, y, z, ex, hT, eH, hy, hz⟩ => ?_⟩
  subst ex eH
  have e1 := hy us h5
  rw [hv] at e1
  cases e1
  have e2 := hz vs h6
  rw [hu] at e2
  cases e2
  exact pair_new w hT rv ru
theorem yl_zipT {b : Addr} {us : List V} {es : List D} (hR : Rl1 Rl) (h : TupAt k.K H a vs) (h' : TupAt k.K H b us) (r : RepL k H g ds vs) (r' : RepL k H g es us) : Yields k Rl (RZ.ItzT k.K a b) H g (pairI ds es) none := fun H2 g2 S2 i rl w _ => by
  have h2 : SqT k.K H2 a vs := (tupAt_mono (k := k) (hR _ _ _ _ rl) h).sq
  have h2' : SqT k.K H2 b us := (tupAt_mono (k := k) (hR _ _ _ _ rl) h').sq
  refine ⟨fun e => ⟨vs, us, h2, h2', ?_⟩, fun d hd => ?_⟩
  · rw [pairI_len] at e
    rw [r.length, r'.length]
    omega
  obtain ⟨p, q, h3, h4, rfl⟩ := pair_at hd
  obtain ⟨v, hv, rv⟩ := r.get h3
  obtain ⟨u, hu, ru⟩ := r'.get h4
  refine ⟨⟨vs, us, v, u, h2, h2', hv, hu⟩, fun x H3 ⟨T, y, z, ex, hT, eH, hy, hz⟩ => ?_⟩
  subst ex eH
  have e1 := hy vs h2
  have e2 := hz us h2'
  rw [hv] at e1; rw [hu] at e2
  cases e1; cases e2
  exact pair_new w hT (rv.mono (hR _ _ _ _ rl) _ _) (ru.mono (hR _ _ _ _ rl) _ _)
end
end Rf
set_option Elab.async false
set_option linter.all false
set_option maxRecDepth 100000
namespace Rf
open PySem L2 TL
abbrev OpP := L2.St → Ls → Hp → G → D → V → Prop
def tQ (k : Kx) (W : WX) (P : OpP) (m : EM) : TE := fun σ H Q => ∃ L S g, LocRel k σ L H g ∧ WF k H g S ∧ Post k (P σ L) H g (fun c d => W c d σ) (m L S) Q
def PL (P : OpP) (σ : L2.St) (L : Ls) (H : Hp) (g : G) : List D → List V → Prop
  | [], vs => vs = []
  | d :: ds, vs => ∃ v r, vs = v :: r ∧ P σ L H g d v ∧ PL P σ L H g ds r
def tQA (k : Kx) (W : WX) (P : OpP) (m : Ls → Sto → R (List D)) : TA := fun σ H Q => ∃ L S g, LocRel k σ L H g ∧ WF k H g S ∧ Post k (PL P σ L) H g (fun c d => W c d σ) (m L S) Q
/-- a value that may be walked while Rl holds -/
def MdRep (k : Kx) (Rl : Hp → G → Hp → G → Prop) (H : Hp) (g : G) : D → V → Prop
  | .lst ds, v => ∃ a vs, v = .ref a ∧ H a = some (.lst vs) ∧ (∀ H2 g2, Rl H g H2 g2 → H2 a = some (.lst vs)) ∧ RepL k H g ds vs
  | d, v => Rep k H g d v
/-- operands of kind P may be walked under Rl -/
structure Md (k : Kx) (Rl : Hp → G → Hp → G → Prop) (P : OpP) : Prop where
  r1 : Rl1 Rl
  md : ∀ {σ L H g d v}, LocRel k σ L H g → P σ L H g d v → MdRep k Rl H g d v
  pk : ∀ {σ L H g d v}, P σ L H g d v → PkRep k σ L H g d v
def PRep (k : Kx) : OpP := fun _ _ => Rep k
def PPk (k : Kx) : OpP := PkRep k
theorem md_p {k : Kx} : Md k PExt (PRep k) where
  r1 := fun _ _ _ _ h => h
  md := fun {σ L H g d v} _ h => by
    cases d with
    | lst ds => obtain ⟨a, vs, h1, h2, h3, h4⟩ := (show Rep k H g (.lst ds) v from h); exact ⟨a, vs, h1, h3, fun H2 g2 e => e.kF _ _ h2 h3, h4⟩
    | _ => exact h
  pk := fun h => .inl h
theorem md_e {k : Kx} : Md k Ext (PPk k) where
  r1 := fun _ _ _ _ h => h.toPExt
  md := fun {σ L H g d v} l h => by
    rcases (show PkRep k σ L H g d v from h) with h | ⟨i, ds, h1, rfl, h3⟩
    · cases d with
      | lst ds => obtain ⟨a, vs, h1, h2, h3, h4⟩ := h; exact ⟨a, vs, h1, h3, fun H2 g2 e => e.kF _ _ h2 h3, h4⟩
      | _ => exact h
    · obtain ⟨a, q, ⟨vs, e, r⟩, h4, h5⟩ := l.own i _ h1
      rw [h3] at q
      cases q
      exact ⟨a, vs, rfl, e, fun H2 g2 x => x.keep _ _ e h5, r⟩
  pk := fun h => h
theorem PI.or {X : Cx} {tg e : Expr} {w1 w2 : TI} (h1 : PI X tg e w1) (h2 : PI X tg e w2) : PI X tg e (fun σ H R => w1 σ H R ∨ w2 σ H R) := ⟨fun pins s σ H R I h => h.elim (h1.run pins s σ H R I) (h2.run pins s σ H R I)⟩
theorem PI.imp {X : Cx} {tg e : Expr} {t t' : TI} (h : PI X tg e t) (i : ∀ σ H Q, t' σ H Q → t σ H Q) : PI X tg e t' := ⟨fun pins s σ H Q I q => h.run pins s σ H Q I (i σ H Q q)⟩
def tI (k : Kx) (Rl : Hp → G → Hp → G → Prop) (W : WX) (m : Ls → Sto → R Src) : TI := fun σ H Q => ∃ L S g, LocRel k σ L H g ∧ WF k H g S ∧
  Post k (fun H' g' (s : Src) (J : It) => Yields k Rl J H' g' s.1 s.2) H g (fun c d => W c d σ) (m L S) Q
def srcOf (S : Sto) : D → Option Src
  | .lst ds => some (ds, none)
  | .tup ds => some (ds, none)
  | .str x => some (strI x, none)
  | .scr ns => some (ns.map .int, none)
  | .obj n => match S[n]? with
    | some (.lst ds) => some (ds, some [(n, ds)])
    | _ => none
  | _ => none
def iVal (m : EM) : Ls → Sto → R Src := fun L S => (m L S).bind fun d S1 => lift (srcOf S1 d) S1
def rng1 : List D → Option Src
  | [.int j] => if -(2 ^ 62) ≤ j ∧ j < 2 ^ 62 then some (rngI 0 j.toNat, none) else none
  | _ => none
def enOf : List D → Option Src
  | [.lst ds] => some (enI ds, none)
  | [.tup ds] => some (enI ds, none)
  | _ => none
def zipOf : List D → Option Src
  | [.lst ds, .lst es] => some (pairI ds es, none)
  | [.tup ds, .tup es] => some (pairI ds es, none)
  | _ => none
/-- enumerate and zip, of the store's lists, too -/
def enS (S : Sto) : List D → Option Src
  | [.obj n] => match S[n]? with
    | some (.lst ds) => some (enI ds, some [(n, ds)])
    | _ => none
  | ds => enOf ds
def zipS (S : Sto) : List D → Option Src
  | [.obj n, .obj m] => match S[n]?, S[m]? with
    | some (.lst ds), some (.lst es) => some (pairI ds es, some [(n, ds), (m, es)])
    | _, _ => none
  | ds => zipOf ds
def iArS (o : Sto → List D → Option Src) (ma : Ls → Sto → R (List D)) : Ls → Sto → R Src := fun L S => (ma L S).bind fun ds S1 => lift (o S1 ds) S1
def iArgs (o : List D → Option Src) (ma : Ls → Sto → R (List D)) : Ls → Sto → R Src := fun L S => (ma L S).bind fun ds S1 => lift (o ds) S1
section
variable {X : Cx} {W : WX} {Rl : Hp → G → Hp → G → Prop} {P : OpP} {tg e : Expr} {m : EM}
theorem si_val (M : Md (kx X) Rl P) (h : PE X e (tQ (kx X) W P m)) : PI X tg e (tI (kx X) Rl W (iVal m)) :=
  PI.imp (Rf.PI.or (pi_list h) (Rf.PI.or (pi_tup h) (pi_str h))) fun σ H Q ⟨L, S, g, l, w, p⟩ => by
    unfold iVal at p
    cases q : m L S with
    | no => rw [q] at p; exact p.elim
    | ex x S' => rw [q] at p; exact .inl ⟨L, S, g, l, w, by rw [q]; exact p⟩
    | ok d S1 =>
      rw [q] at p
      have p0 : Post (kx X) (fun H' g' (s : Src) (J : It) => Yields (kx X) Rl J H' g' s.1 s.2) H g (fun c d => W c d σ) (lift (srcOf S1 d) S1) Q := p
      cases z : srcOf S1 d with
      | none => rw [z] at p0; exact p0.elim
      | some src =>
        rw [z] at p0
        have p1 : ∀ J H1 g1, Ext H g H1 g1 → WF (kx X) H1 g1 S1 → Yields (kx X) Rl J H1 g1 src.1 src.2 → Q J H1 := fun J H1 g1 e2 w1 y => p0 J H1 g1 e2 w1 y
        cases d with
        | lst ds =>
          cases z
          refine .inl ⟨L, S, g, l, w, ?_⟩
          rw [q]
          intro v H1 g1 e1 w1 r1
          obtain ⟨a, vs, rfl, h0, h1, h2⟩ := M.md (l.ext e1) r1
          exact ⟨a, rfl, ⟨vs, SqL.of h0⟩, p1 _ _ g1 e1 w1 (yl_list M.r1 h1 h2)⟩
        | tup ds =>
          cases z
          refine .inr (.inl ⟨L, S, g, l, w, ?_⟩)
          rw [q]
          intro v H1 g1 e1 w1 r1
          obtain ⟨a, vs, rfl, h1, h2⟩ := M.md (l.ext e1) r1
          exact ⟨a, rfl, ⟨vs, h1.sq⟩, p1 _ _ g1 e1 w1 (yl_tup M.r1 h1 h2)⟩
        | str x =>
          cases z
          refine .inr (.inr ⟨L, S, g, l, w, ?_⟩)
          rw [q]
          intro v H1 g1 e1 w1 r1
          cases (show v = .str ⟨x.toArray⟩ from M.md (l.ext e1) r1)
          exact ⟨_, rfl, p1 _ _ g1 e1 w1 yl_str⟩
        | scr ns =>
          cases z
          refine .inl ⟨L, S, g, l, w, ?_⟩
          rw [q]
          intro v H1 g1 e1 w1 r1
          obtain ⟨a, rfl, h1⟩ := M.md (l.ext e1) r1
          exact ⟨a, rfl, ⟨_, h1.sq⟩, p1 _ _ g1 e1 w1 (yl_scr M.r1 h1)⟩
        | obj n =>
          refine .inl ⟨L, S, g, l, w, ?_⟩
          rw [q]
          intro v H1 g1 e1 w1 r1
          obtain ⟨hn, rfl⟩ := M.md (l.ext e1) r1
          simp only [srcOf] at z
          split at z
          · rename_i ds hd
            cases z
            obtain ⟨vs, h1, h2⟩ := w1.ob n _ hd
            exact ⟨_, rfl, ⟨vs, SqL.of h1⟩, p1 _ _ g1 e1 w1 (yl_obj M.r1 hn)⟩
          · cases z
        | _ => cases z
variable {a b : Expr} {ma : Ls → Sto → R (List D)} {p pos : Pos}
theorem arg1 {ds : List D} {d : D} {σ : L2.St} {L : Ls} {H : Hp} {g : G} {vs : List V} (h : PL P σ L H g [d] vs) : ∃ v, vs = [v] ∧ P σ L H g d v := by
  obtain ⟨v, r, h1, h2, h3⟩ := h
  cases (show r = [] from h3)
  exact ⟨v, h1, h2⟩
theorem arg2 {d d' : D} {σ : L2.St} {L : Ls} {H : Hp} {g : G} {vs : List V} (h : PL P σ L H g [d, d'] vs) : ∃ v u, vs = [v, u] ∧ P σ L H g d v ∧ P σ L H g d' u := by
  obtain ⟨v, r, h1, h2, h3⟩ := h
  obtain ⟨u, rfl, h4⟩ := arg1 (ds := []) h3
  exact ⟨v, u, h1, h2, h4⟩
theorem pk_int {k : Kx} {σ : L2.St} {L : Ls} {H : Hp} {g : G} {i : Int} {v : V} (h : PkRep k σ L H g (.int i) v) : v = .int i := by
  rcases h with h | ⟨_, _, _, h, _⟩
  · exact h
  · cases h
/-- one more step: from the arguments' items -/
theorem it_fin {k : Kx} {o : List D → Option Src} {σ : L2.St} {H : Hp} {Q : It → Hp → Prop} {R : List V → Hp → Prop} (h : tI k Rl W (iArgs o ma) σ H Q)
    (f : ∀ L ds S1 vs H1 g1 src, LocRel k σ L H1 g1 → WF k H1 g1 S1 → PL P σ L H1 g1 ds vs → o ds = some src → (∀ J, Yields k Rl J H1 g1 src.1 src.2 → Q J H1) → R vs H1) : tQA k W P ma σ H R := by
  obtain ⟨L, S, g, l, w, p⟩ := h
  refine ⟨L, S, g, l, w, Post.bind p fun ds S1 vs H1 g1 e1 w1 r1 p1 => ?_⟩
  cases q : o ds with
  | none => rw [q] at p1; exact p1.elim
  | some src =>
    rw [q] at p1
    exact f L ds S1 vs H1 g1 src (l.ext e1) w1 r1 q fun J y => Post.ret p1 w1 y
theorem si_rng1 (M : Md (kx X) Rl P) (hg : Gl X "range") (hm : X.mg "range" = none) (ha : PA X [a] (tQA (kx X) W P ma)) (hs : noStar a = true) : PI X tg (.Call (.Name "range" p) [a] [] pos) (tI (kx X) Rl W (iArgs rng1 ma)) :=
  PI.imp (pi_range1 hg hm ha (star_cons hs)) fun σ H Q h => it_fin h fun L ds S1 vs H1 g1 src l w r q y => by
    unfold rng1 at q
    split at q
    · split at q
      · rename_i j hz
        cases q
        obtain ⟨v, rfl, hv⟩ := arg1 (ds := []) r
        cases pk_int (M.pk hv)
        exact ⟨j, rfl, hz.1, hz.2, y _ yl_rng⟩
      · cases q
    · cases q
variable {elts : List Expr} {kk : Nat} {tpos : Pos}
end
section
variable {X : Cx} {W : WX} {Rl : Hp → G → Hp → G → Prop} {P : OpP} {a b : Expr} {ma : Ls → Sto → R (List D)} {p pos : Pos} {elts : List Expr} {kk : Nat} {tpos : Pos}
theorem it_finS {k : Kx} {o : Sto → List D → Option Src} {σ : L2.St} {H : Hp} {Q : It → Hp → Prop} {R : List V → Hp → Prop} (h : tI k Rl W (iArS o ma) σ H Q)
    (f : ∀ L ds S1 vs H1 g1 src, LocRel k σ L H1 g1 → WF k H1 g1 S1 → PL P σ L H1 g1 ds vs → o S1 ds = some src → (∀ J, Yields k Rl J H1 g1 src.1 src.2 → Q J H1) → R vs H1) : tQA k W P ma σ H R := by
  obtain ⟨L, S, g, l, w, p⟩ := h
  refine ⟨L, S, g, l, w, Post.bind p fun ds S1 vs H1 g1 e1 w1 r1 p1 => ?_⟩
  cases q : o S1 ds with
  | none => rw [q] at p1; exact p1.elim
  | some src =>
    rw [q] at p1
    exact f L ds S1 vs H1 g1 src (l.ext e1) w1 r1 q fun J y => Post.ret p1 w1 y
theorem pk_obj {k : Kx} {σ : L2.St} {L : Ls} {H : Hp} {g : G} {n : Nat} {v : V} (h : PkRep k σ L H g (.obj n) v) : n < g.n ∧ v = .ref (g.ρ n) := by
  rcases h with h | ⟨_, _, _, h, _⟩
  · exact h
  · cases h
theorem si_enS (M : Md (kx X) Rl P) (hg : Gl X "enumerate") (hm : X.mg "enumerate" = none) (ha : PA X [a] (tQA (kx X) W P ma)) (hs : noStar a = true) : PI X (.Tuple elts kk tpos) (.Call (.Name "enumerate" p) [a] [] pos) (tI (kx X) Rl W (iArS enS ma)) :=
  PI.imp (pi_enT hg hm ha (star_cons hs)) fun σ H Q h => it_finS h fun L ds S1 vs H1 g1 src l w r q y => by
    unfold enS at q
    split at q
    · rename_i n
      split at q
      · rename_i ds hd
        cases q
        obtain ⟨v, rfl, hv⟩ := arg1 (ds := []) r
        obtain ⟨hn, rfl⟩ := pk_obj (M.pk hv)
        obtain ⟨us, h1, h2⟩ := w.ob n _ hd
        exact ⟨_, us, rfl, .inl ⟨SqL.of h1, y _ (yl_enumO M.r1 hn)⟩⟩
      · cases q
    · unfold enOf at q
      split at q
      · cases q
        obtain ⟨v, rfl, hv⟩ := arg1 (ds := []) r
        obtain ⟨c, vs, rfl, h0, h1, h2⟩ := M.md l hv
        exact ⟨c, vs, rfl, .inl ⟨SqL.of h0, y _ (yl_enum M.r1 (fun H2 g2 e => SqL.of (h1 H2 g2 e)) h2)⟩⟩
      · cases q
        obtain ⟨v, rfl, hv⟩ := arg1 (ds := []) r
        obtain ⟨c, vs, rfl, h1, h2⟩ := M.md l hv
        exact ⟨c, vs, rfl, .inr ⟨h1.sq, y _ (yl_enumT M.r1 h1 h2)⟩⟩
      · cases q
theorem si_zipS (M : Md (kx X) Rl P) (hg : Gl X "zip") (hm : X.mg "zip" = none) (ha : PA X [a, b] (tQA (kx X) W P ma)) (hs : noStar a = true) (hs' : noStar b = true) : PI X (.Tuple elts kk tpos) (.Call (.Name "zip" p) [a, b] [] pos) (tI (kx X) Rl W (iArS zipS ma)) :=
  PI.imp (RZ.pi_zipA hg hm ha (star_cons hs) (star_any (by rw [List.all_cons, hs'] <;> rfl))) fun σ H Q h => it_finS h fun L ds S1 vs H1 g1 src l w r q y => by
    unfold zipS at q
    split at q
    · rename_i n m
      split at q
      · rename_i ds es hd he
        cases q
        obtain ⟨v, u, rfl, hv, hu⟩ := arg2 r
        obtain ⟨hn, rfl⟩ := pk_obj (M.pk hv)
        obtain ⟨hm', rfl⟩ := pk_obj (M.pk hu)
        obtain ⟨us, h1, h2⟩ := w.ob n _ hd
        obtain ⟨us', h1', h2'⟩ := w.ob m _ he
        exact ⟨_, _, us, us', rfl, .inl ⟨SqL.of h1, SqL.of h1', y _ (yl_zipO M.r1 hn hm')⟩⟩
      · cases q
    · unfold zipOf at q
      split at q
      · cases q
        obtain ⟨v, u, rfl, hv, hu⟩ := arg2 r
        obtain ⟨c, vs, rfl, h0, h1, h2⟩ := M.md l hv
        obtain ⟨c', vs', rfl, h0', h1', h2'⟩ := M.md l hu
        exact ⟨c, c', vs, vs', rfl, .inl ⟨SqL.of h0, SqL.of h0', y _ (yl_zip M.r1 (fun H2 g2 e => SqL.of (h1 H2 g2 e)) (fun H2 g2 e => SqL.of (h1' H2 g2 e)) h2 h2')⟩⟩
      · cases q
        obtain ⟨v, u, rfl, hv, hu⟩ := arg2 r
        obtain ⟨c, vs, rfl, h1, h2⟩ := M.md l hv
        obtain ⟨c', vs', rfl, h1', h2'⟩ := M.md l hu
        exact ⟨c, c', vs, vs', rfl, .inr ⟨h1.sq, h1'.sq, y _ (yl_zipT M.r1 h1 h1' h2 h2')⟩⟩
      · cases q
end
theorem pl_pkl {k : Kx} {σ : L2.St} {L : Ls} {H : Hp} {g : G} : ∀ {ds : List D} {vs : List V}, PkL k σ L H g ds vs → PL (PPk k) σ L H g ds vs
  | [], _, h => h
  | _ :: _, _, ⟨v, r, h1, h2, h3⟩ => ⟨v, r, h1, h2, pl_pkl h3⟩
theorem pl_rep {k : Kx} {σ : L2.St} {L : Ls} {H : Hp} {g : G} : ∀ {ds : List D} {vs : List V}, RepL k H g ds vs → PL (PRep k) σ L H g ds vs
  | [], _, h => h
  | _ :: _, _, ⟨v, r, h1, h2, h3⟩ => ⟨v, r, h1, h2, pl_rep h3⟩
theorem Post.imp {α β : Type} {k : Kx} {P P' : Hp → G → α → β → Prop} {H : Hp} {g : G} {W : Value → Option Addr → Hp → Prop} {r : R α} {Q : β → Hp → Prop} (h : Post k P H g W r Q) (i : ∀ H' g' a b, P' H' g' a b → P H' g' a b) : Post k P' H g W r Q := by
  cases r with
  | ok a S => exact fun b H' g' e w p => h b H' g' e w (i _ _ _ _ p)
  | ex x S => exact h
  | no => exact h
theorem SA.q {X : Cx} {W : WX} {es : List Expr} {m : Ls → Sto → R (List D)} (h : SA X W es m) : PA X es (tQA (kx X) W (PPk (kx X)) m) := PA.imp h fun σ H Q ⟨L, S, g, l, w, p⟩ => ⟨L, S, g, l, w, Post.imp p fun _ _ _ _ z => pl_pkl z⟩
theorem SAE.q {X : Cx} {W : WX} {es : List Expr} {m : Ls → Sto → R (List D)} (h : SAE X W es m) : PA X es (tQA (kx X) W (PRep (kx X)) m) := PA.imp h fun σ H Q ⟨L, S, g, l, w, p⟩ => ⟨L, S, g, l, w, Post.imp p fun _ _ _ _ z => pl_rep z⟩
end Rf
set_option Elab.async false
set_option linter.all false
set_option maxRecDepth 100000
namespace Rf
open PySem L2 TL
inductive Tg where
  | nm (i : Nat) | tup (ts : List Tg)
mutual
def tgA : Tg → D → Ls → Option Ls
  | .nm i, d, L => some (L.set i (.v d))
  | .tup ts, .tup ds, L => tgAs ts ds L
  | .tup ts, .lst ds, L => tgAs ts ds L
  | .tup _, _, _ => none
def tgAs : List Tg → List D → Ls → Option Ls
  | [], [], L => some L
  | t :: ts, d :: ds, L => match tgA t d L with
    | some L1 => tgAs ts ds L1
    | none => none
  | _, _, _ => none
end
mutual
def Tg.slots : Tg → List Nat
  | .nm i => [i]
  | .tup ts => Tg.slotsL ts
def Tg.slotsL : List Tg → List Nat
  | [] => []
  | t :: ts => t.slots ++ Tg.slotsL ts
end
/-- what a store of ours leaves -/
def Frm (ss : List Nat) (σ σ' : L2.St) : Prop := σ'.length = σ.length ∧ ∀ j, j ∉ ss → σ'[j]? = σ[j]?
theorem Frm.trans {ss ts : List Nat} {a b c : L2.St} (h : Frm ss a b) (h' : Frm ts b c) : Frm (ss ++ ts) a c :=
  ⟨h'.1.trans h.1, fun j hj => (h'.2 j fun z => hj (List.mem_append_right _ z)).trans (h.2 j fun z => hj (List.mem_append_left _ z))⟩
theorem LocRel.set {k : Kx} {σ : L2.St} {L : Ls} {H : Hp} {g : G} {i : Nat} {d : D} {v : V} (l : LocRel k σ L H g) (r : Rep k H g d v) : LocRel k (σ.set i (some v)) (L.set i (.v d)) H g where
  len := by rw [List.length_set, List.length_set, l.len]
  val := fun j e h => by
    by_cases hj : i = j
    · subst hj
      by_cases hl : i < L.length
      · rw [List.getElem?_set_self hl] at h
        cases h
        exact ⟨v, by rw [List.getElem?_set_self (by rw [l.len]; exact hl)], r⟩
      · rw [List.getElem?_eq_none (by rw [List.length_set]; omega)] at h
        cases h
    · rw [List.getElem?_set_ne hj] at h
      obtain ⟨u, h1, h2⟩ := l.val j e h
      exact ⟨u, by rw [List.getElem?_set_ne hj]; exact h1, h2⟩
  own := fun j o h => by
    by_cases hj : i = j
    · subst hj
      by_cases hl : i < L.length
      · rw [List.getElem?_set_self hl] at h
        cases h
      · rw [List.getElem?_eq_none (by rw [List.length_set]; omega)] at h
        cases h
    · rw [List.getElem?_set_ne hj] at h
      obtain ⟨u, h1, h2⟩ := l.own j o h
      exact ⟨u, by rw [List.getElem?_set_ne hj]; exact h1, h2⟩
  sep := fun a b o u p ha hb pa pb => by
    have key : ∀ {a : Nat} {o : O}, (L.set i (.v d))[a]? = some (.o o) → i ≠ a := fun {a o} h z => by
      subst z
      by_cases hl : i < L.length
      · rw [List.getElem?_set_self hl] at h; cases h
      · rw [List.getElem?_eq_none (by rw [List.length_set]; omega)] at h; cases h
    have ia := key ha
    have ib := key hb
    rw [List.getElem?_set_ne ia] at ha pa
    rw [List.getElem?_set_ne ib] at hb pb
    exact l.sep a b o u p ha hb pa pb
  exc := l.exc.set nofun
theorem LocRel.unset {k : Kx} {σ : L2.St} {L : Ls} {H : Hp} {g : G} {i : Nat} (l : LocRel k σ L H g) : LocRel k (σ.set i none) (L.set i .un) H g where
  len := by rw [List.length_set, List.length_set, l.len]
  val := fun j e h => by
    by_cases hj : i = j
    · subst hj
      by_cases hl : i < L.length
      · rw [List.getElem?_set_self hl] at h
        cases h
      · rw [List.getElem?_eq_none (by rw [List.length_set]; omega)] at h
        cases h
    · rw [List.getElem?_set_ne hj] at h
      obtain ⟨u, h1, h2⟩ := l.val j e h
      exact ⟨u, by rw [List.getElem?_set_ne hj]; exact h1, h2⟩
  own := fun j o h => by
    by_cases hj : i = j
    · subst hj
      by_cases hl : i < L.length
      · rw [List.getElem?_set_self hl] at h
        cases h
      · rw [List.getElem?_eq_none (by rw [List.length_set]; omega)] at h
        cases h
    · rw [List.getElem?_set_ne hj] at h
      obtain ⟨u, h1, h2⟩ := l.own j o h
      exact ⟨u, by rw [List.getElem?_set_ne hj]; exact h1, h2⟩
  sep := fun a b o u p ha hb pa pb => by
    have key : ∀ {a : Nat} {o : O}, (L.set i .un)[a]? = some (.o o) → i ≠ a := fun {a o} h z => by
      subst z
      by_cases hl : i < L.length
      · rw [List.getElem?_set_self hl] at h; cases h
      · rw [List.getElem?_eq_none (by rw [List.length_set]; omega)] at h; cases h
    have ia := key ha
    have ib := key hb
    rw [List.getElem?_set_ne ia] at ha pa
    rw [List.getElem?_set_ne ib] at hb pb
    exact l.sep a b o u p ha hb pa pb
  exc := l.exc.set nofun
def wipeL (L : Ls) : List Nat → Ls
  | [] => L
  | v :: vs => (wipeL L vs).set v .un
theorem LocRel.wipe {k : Kx} {σ : L2.St} {L : Ls} {H : Hp} {g : G} (l : LocRel k σ L H g) : ∀ vs, LocRel k (L2.wipe σ vs) (wipeL L vs) H g
  | [] => l
  | _ :: vs => (LocRel.wipe l vs).unset
def tGt (k : Kx) (t : Tg) : TG := fun v σ H Q => ∃ d L S g L', Rep k H g d v ∧ LocRel k σ L H g ∧ WF k H g S ∧ tgA t d L = some L' ∧ ∀ σ', LocRel k σ' L' H g → Frm t.slots σ σ' → Q σ' H
def tGs (k : Kx) (ts : List Tg) : TGs := fun vs σ H Q => ∃ ds L S g L', RepL k H g ds vs ∧ LocRel k σ L H g ∧ WF k H g S ∧ tgAs ts ds L = some L' ∧ ∀ σ', LocRel k σ' L' H g → Frm (Tg.slotsL ts) σ σ' → Q σ' H
theorem PG.imp {X : Cx} {tg : Expr} {t t' : TG} (h : PG X tg t) (i : ∀ v σ H Q, t' v σ H Q → t v σ H Q) : PG X tg t' := ⟨fun pins s σ H v u Q I r q => h.run pins s σ H v u Q I r (i v σ H Q q)⟩
theorem PGs.imp {X : Cx} {tg : List Expr} {t t' : TGs} (h : PGs X tg t) (i : ∀ v σ H Q, t' v σ H Q → t v σ H Q) : PGs X tg t' := ⟨fun pins s σ H v u Q I r q => h.run pins s σ H v u Q I r (i v σ H Q q)⟩
theorem PG.or {X : Cx} {tg : Expr} {t t' : TG} (h : PG X tg t) (h' : PG X tg t') : PG X tg (fun v σ H Q => t v σ H Q ∨ t' v σ H Q) := ⟨fun pins s σ H v u Q I r q => q.elim (h.run pins s σ H v u Q I r) (h'.run pins s σ H v u Q I r)⟩
theorem as_each {X : Cx} : ∀ {es : List Expr}, es.all noStar = true → (assignEach es X.env).map (·.2) = es.map (fun e => assign e X.env) ∧ (assignEach es X.env).length = es.length ∧ (assignEach es X.env).findIdx? (·.1) = none
  | [], _ => ⟨rfl, rfl, rfl⟩
  | e :: es, h => by
    rw [List.all_cons, Bool.and_eq_true] at h
    obtain ⟨h1, h2, h3⟩ := as_each (X := X) h.2
    have e1 : assignEach (e :: es) X.env = (false, assign e X.env) :: assignEach es X.env := by
      cases e <;> first | rfl | (exact absurd h.1 Bool.false_ne_true)
    rw [e1]
    refine ⟨by rw [List.map_cons, h1] <;> rfl, by rw [List.length_cons, h2] <;> rfl, ?_⟩
    rw [List.findIdx?_cons]
    simp only [Bool.false_eq_true, if_false, h3]
    rfl
section
variable {X : Cx} {pos : Pos} {i kk : Nat} {x : Str} {e : Expr} {es : List Expr} {t : Tg} {ts : List Tg}
theorem sg_name (h : PG X (.Name x pos) (gName i)) : PG X (.Name x pos) (tGt (kx X) (.nm i)) := PG.imp h fun v σ H Q ⟨d, L, S, g, L', r, l, w, e, q⟩ => by
  cases e
  exact q _ (l.set r) ⟨List.length_set .., fun j hj => List.getElem?_set_ne (fun z => hj (by simp [Tg.slots, z]))⟩
theorem sgs_nil : PGs X [] (tGs (kx X) []) := PGs.imp pgs_nil fun vs σ H Q ⟨ds, L, S, g, L', r, l, w, e, q⟩ => by
  cases ds with
  | nil => cases e; exact ⟨r, q σ l ⟨rfl, fun _ _ => rfl⟩⟩
  | cons d ds => cases e
theorem sgs_cons (h1 : PG X e (tGt (kx X) t)) (h2 : PGs X es (tGs (kx X) ts)) (hs : (e :: es).all noStar = true) : PGs X (e :: es) (tGs (kx X) (t :: ts)) := by
  have a := as_each (X := X) hs
  have hs' : noStar e = true ∧ es.all noStar = true := by rwa [List.all_cons, Bool.and_eq_true] at hs
  have b := as_each (X := X) hs'.2
  refine PGs.imp (pgs_cons h1 h2 (by rw [a.1, b.1] <;> rfl)) fun vs σ H Q ⟨ds, L, S, g, L', r, l, w, e, q⟩ => ?_
  cases ds with
  | nil => cases e
  | cons d ds =>
    obtain ⟨v, u, rfl, r1, r2⟩ := r
    simp only [tgAs] at e
    split at e
    · rename_i L1 e1
      exact ⟨v, u, rfl, d, L, S, g, L1, r1, l, w, e1, fun σ' l' f => ⟨ds, L1, S, g, L', r2, l', w, e, fun σ'' l'' f' => q σ'' l'' (f.trans f')⟩⟩
    · cases e
theorem sg_tup (hc : X.calm = true) (h : PGs X es (tGs (kx X) ts)) (hs : es.all noStar = true) (hl : es.length = ts.length) : PG X (.Tuple es kk pos) (tGt (kx X) (.tup ts)) := by
  have a := as_each (X := X) hs
  refine PG.imp (Rf.PG.or (pg_tup (n := ts.length) hc h (a.2.1.trans hl) a.2.2) (pg_lst (n := ts.length) hc h (a.2.1.trans hl) a.2.2)) fun v σ H Q ⟨d, L, S, g, L', r, l, w, e, q⟩ => ?_
  have len : ∀ {ts : List Tg} {ds : List D} {L L' : Ls}, tgAs ts ds L = some L' → ds.length = ts.length := by
    intro ts
    induction ts with
    | nil => intro ds L L' h; cases ds with
      | nil => rfl
      | cons d ds => cases h
    | cons t ts ih => intro ds L L' h; cases ds with
      | nil => cases h
      | cons d ds =>
        simp only [tgAs] at h
        split at h
        · rw [List.length_cons, List.length_cons, ih h]
        · cases h
  cases d with
  | tup ds =>
    obtain ⟨p, vs, rfl, hp, rr⟩ := r
    have e' : tgAs ts ds L = some L' := e
    exact .inl ⟨p, vs, rfl, hp.sq, by rw [rr.length, len e'], ds, L, S, g, L', rr, l, w, e', q⟩
  | lst ds =>
    obtain ⟨p, vs, rfl, _, hp, rr⟩ := r
    have e' : tgAs ts ds L = some L' := e
    exact .inr ⟨p, vs, rfl, SqL.of hp, by rw [rr.length, len e'], ds, L, S, g, L', rr, l, w, e', q⟩
  | _ => cases e
end
@[reducible] def R.nox {α : Type} (r : R α) : R α := match r with
  | .ok a S => .ok a S
  | _ => .no
open Classical in
/-- go on only if the store's list is as it was -/
noncomputable def ckd {α : Type} (S : Sto) (all : List D) (dep : Dep) (r : R α) : R α := match dep with
  | none => r
  | some l => if DepC S l then r else .no
noncomputable def lcLoop (dep : Dep) (all : List D) (t : Tg) (tt : Ls → Sto → R Bool) (te : EM) (Lw : Ls) : List D → Sto → List D → R (List D)
  | [], S, acc => ckd S all dep (.ok acc S)
  | d :: ds, S, acc => ckd S all dep (match tgA t d Lw with
    | none => .no
    | some L1 => (tt L1 S).nox.bind fun b S1 => if b = true then (te L1 S1).nox.bind fun y S2 => if acc.length < sizeLine then lcLoop dep all t tt te Lw ds S2 (acc ++ [y]) else .no
      else lcLoop dep all t tt te Lw ds S1 acc)
noncomputable def fLc (mi : Ls → Sto → R Src) (own : List Nat) (t : Tg) (tt : Ls → Sto → R Bool) (te : EM) : Ls → Sto → R (List D) := fun L S =>
  (mi L S).bind fun src S1 => lcLoop src.2 src.1 t tt te (wipeL L own) src.1 S1 []
def tYs : Ls → Sto → R Bool := fun _ S => .ok true S
theorem ckd_ok {α β : Type} {k : Kx} {P : Hp → G → α → β → Prop} {H : Hp} {g : G} {W : Value → Option Addr → Hp → Prop} {S : Sto} {all : List D} {dep : Dep} {r : R α} {Q : β → Hp → Prop}
    (h : Post k P H g W (ckd S all dep r) Q) : DepOk S all dep ∧ Post k P H g W r Q := by
  cases dep with
  | none => exact ⟨trivial, h⟩
  | some n =>
    unfold ckd at h
    dsimp only at h
    by_cases z : DepC S n
    · rw [if_pos z] at h; exact ⟨z, h⟩
    · rw [if_neg z] at h; exact h.elim
section
variable {α β α' β' : Type} {k : Kx} {P : Hp → G → α → β → Prop} {P' : Hp → G → α' → β' → Prop} {B H H' : Hp} {gB g g' : G} {W W' : Value → Option Addr → Hp → Prop} {r : R α} {f : α → Sto → R α'} {Q : β → Hp → Prop} {Q' : β' → Hp → Prop}
theorem Post.bindN (h : Post k P' B gB W (r.nox.bind f) Q') (hk : ∀ a S b H' g', Ext H g H' g' → WF k H' g' S → P H' g' a b → Post k P' B gB W (f a S) Q' → Q b H') : Post k P H g W' r Q := by
  cases r with
  | ok a S => exact fun b H2 g2 e w p => hk a S b H2 g2 e w p h
  | ex x S => exact h.elim
  | no => exact h.elim
end
section
variable {k : Kx} {H B : Hp} {g gB : G} {S : Sto} {a : Addr} {ds es : List D} {us vs : List V}
theorem own_pext (h : OwnAt k H g a (.lst ds)) : PExt H g (upd H a (.lst vs)) g := by
  obtain ⟨⟨us, e, r⟩, nf, nr⟩ := h
  refine ⟨fun _ f => f, fun b o f q => ?_, fun b xs q => ?_, fun b o u q => ?_, Nat.le_refl _, fun _ _ => rfl⟩
  · rw [upd_ne (fun z => nf (by rw [← z]; exact f))]; exact q
  · rw [upd_ne (fun z => by rw [z, e] at q; cases q)]; exact q
  · rw [upd_ne (fun z => by rw [z, e] at q; cases q)]; exact q
theorem own_wf (h : OwnAt k H g a (.lst ds)) (w : WF k H g S) : WF k (upd H a (.lst vs)) g S where
  len := w.len
  ob := fun i o e => (w.ob i o e).mono (own_pext h) fun u q => by
    rw [upd_ne (fun z => h.2.2 i (by rw [← w.len]; exact (List.getElem?_eq_some_iff.mp e).1) z)]; exact q
  inj := w.inj
  nF := w.nF
  tF := fun b f => by
    obtain ⟨o, q⟩ := w.tF b f
    exact ⟨o, by rw [upd_ne (fun z => h.2.1 (by rw [← z]; exact f))]; exact q⟩
theorem own_own (h : OwnAt k H g a (.lst ds)) (r : RepL k H g es vs) : OwnAt k (upd H a (.lst vs)) g a (.lst es) := ⟨⟨vs, upd_same, r.mono (own_pext h) _ _⟩, h.2⟩
theorem own_ext (h : OwnAt k H g a (.lst ds)) (e : Ext B gB H g) (hB : B a = none) : Ext B gB (upd H a (.lst vs)) g where
  toPExt := ⟨e.F, fun b o f q => by rw [upd_ne (ne_of_none q hB)]; exact e.kF b o f q, fun b xs q => by rw [upd_ne (ne_of_none q hB)]; exact e.kT b xs q, fun b o u q => by rw [upd_ne (ne_of_none q hB)]; exact e.kZ b o u q, e.n, e.ρ⟩
  keep := fun b o q n => by rw [upd_ne (ne_of_none q hB)]; exact e.keep b o q n
  newF := e.newF
  newρ := e.newρ
  tr := fun b o q => by
    obtain ⟨u, z⟩ := e.tr b o q
    exact ⟨u, by rw [upd_ne (ne_of_none q hB)]; exact z⟩
end
theorem wipe_in {σ : L2.St} : ∀ {vs : List Nat} {j : Nat}, j ∈ vs → (wipe σ vs)[j]? = if j < σ.length then some none else none
  | v :: vs, j, h => by
    unfold wipe
    by_cases hj : v = j
    · subst hj
      by_cases hl : v < σ.length
      · rw [List.getElem?_set_self (by rw [wipe_length]; exact hl), if_pos hl]
      · rw [List.getElem?_eq_none (by rw [List.length_set, wipe_length]; omega), if_neg hl]
    · rw [List.getElem?_set_ne hj]
      rcases List.mem_cons.mp h with z | z
      · exact absurd z.symm hj
      · exact wipe_in z
theorem wipe_out' {σ : L2.St} : ∀ {vs : List Nat} {j : Nat}, j ∉ vs → (wipe σ vs)[j]? = σ[j]?
  | [], _, _ => rfl
  | v :: vs, j, h => by
    unfold wipe
    rw [List.getElem?_set_ne (fun z => h (by simp [z]))]
    exact wipe_out' fun z => h (List.mem_cons_of_mem _ z)
theorem wipe_frm {σ σ2 : L2.St} {vs ss : List Nat} (f : Frm ss (wipe σ vs) σ2) (hs : ∀ i ∈ ss, i ∈ vs) : wipe σ2 vs = wipe σ vs := by
  apply List.ext_getElem?
  intro j
  by_cases hj : j ∈ vs
  · rw [wipe_in hj, wipe_in hj, f.1, wipe_length]
  · rw [wipe_out' hj, f.2 j fun z => hj (hs j z)]
abbrev WN : WX := fun _ _ _ _ => False
theorem PTs.imp {X : Cx} {ifs : List Expr} {t t' : TT} (h : PTs X ifs t) (i : ∀ σ H Q, t' σ H Q → t σ H Q) : PTs X ifs t' := ⟨fun pins s σ H Q I q => h.run pins s σ H Q I (i σ H Q q)⟩
section
variable {X : Cx} {W : WX} {elt tg iter c : Expr} {ifs : List Expr} {scope : Scope} {own : List (Str × Nat)} {pos : Pos} {mi : Ls → Sto → R Src} {t : Tg} {tt : Ls → Sto → R Bool} {te : EM}
theorem sts_nil : PTs X [] (tT (kx X) W tYs) := PTs.imp pts_nil fun σ H Q ⟨L, S, g, l, w, p⟩ => Post.ret p w rfl
theorem sts_one (h : ST X W c tt) : PTs X [c] (tT (kx X) W tt) := pts_one h
/-- the readings: from ours to the layer's -/
theorem lc_read {vs : List Nat} (hs : ∀ i ∈ t.slots, i ∈ vs) {k : Kx} {σ : L2.St} {H : Hp} {Q : VK} (h : tF k W (fLc mi vs t tt te) σ H Q) :
    tLc (tI k Ext W mi) (tGt k t) (tT k WN tt) (tE k WN te) vs σ H Q := by
  obtain ⟨L, S, g, l, w, p⟩ := h
  refine ⟨L, S, g, l, w, Post.bind p fun src S1 J H1 g1 e1 w1 y p1 => fun D hD => ?_⟩
  obtain ⟨all, dep⟩ := src
  have hD0 : H D = none := fresh_of e1 hD
  have l1 := (l.ext e1).wipe vs
  refine ⟨fun i m Hc => ∃ Sc gc acc, m = all.length - i ∧ i ≤ all.length ∧ Ext H1 g1 Hc gc ∧ WF k Hc gc Sc ∧ OwnAt k Hc gc D (.lst acc) ∧
    Post k (FRep k H) H1 g1 (fun c d => W c d σ) (lcLoop dep all t tt te (wipeL L vs) (all.drop i) Sc acc) Q,
    ⟨all.length, S1, g1, [], by omega, Nat.zero_le _, Ext.new hD, w1.new hD, own_new w1 rfl hD, by rw [List.drop_zero]; exact p1⟩, ?_⟩
  rintro i m Hc ⟨Sc, gc, acc, rfl, hi, ec, wc, oc, pc⟩
  by_cases hlt : i < all.length
  · rw [List.drop_eq_getElem_cons hlt] at pc
    obtain ⟨dok, pc⟩ := ckd_ok pc
    obtain ⟨go, yl⟩ := (y Hc gc Sc i ec wc dok).2 all[i] (List.getElem?_eq_getElem hlt)
    refine .inr ⟨go, fun H' => ∃ m', m' < all.length - i ∧ ∃ Sc gc acc, m' = all.length - (i + 1) ∧ i + 1 ≤ all.length ∧ Ext H1 g1 H' gc ∧ WF k H' gc Sc ∧ OwnAt k H' gc D (.lst acc) ∧
      Post k (FRep k H) H1 g1 (fun c d => W c d σ) (lcLoop dep all t tt te (wipeL L vs) (all.drop (i + 1)) Sc acc) Q, fun H' h => h, fun x H3 hy => ?_⟩
    obtain ⟨e3, w3, r3⟩ := yl x H3 hy
    have ec3 := ec.trans e3
    cases q : tgA t all[i] (wipeL L vs) with
    | none => rw [q] at pc; exact pc.elim
    | some L1 =>
      rw [q] at pc
      refine ⟨all[i], wipeL L vs, Sc, gc, L1, r3, l1.ext ec3, w3, q, fun σ2 l2 f2 => ⟨wipe_frm f2 hs, L1, Sc, gc, l2, w3, Post.bindN pc fun b S4 b' H4 g4 e4 w4 rb p4 => ?_⟩⟩
      cases rb
      have ec4 := ec3.trans e4
      have o4 := (oc.ext e3).ext e4
      by_cases hb : b = true
      · rw [if_pos hb] at p4 ⊢
        refine ⟨L1, S4, g4, l2.ext e4, w4, Post.bindN p4 fun d S5 v H5 g5 e5 w5 r5 p5 => ?_⟩
        have o5 := o4.ext e5
        have ec5 := ec4.trans e5
        obtain ⟨accV, hacc, racc⟩ := id o5.1
        by_cases hz : acc.length < sizeLine
        · rw [if_pos hz] at p5
          have racc' := racc.append (RepL.cons r5 .nil)
          exact ⟨accV, hacc, by rw [racc.length]; exact hz, _, by omega, S5, g5, acc ++ [d], rfl, hlt, own_ext o5 ec5 hD, own_wf o5 w5, own_own o5 racc', p5⟩
        · rw [if_neg hz] at p5
          exact p5.elim
      · rw [if_neg hb] at p4 ⊢
        exact ⟨_, by omega, S4, g4, acc, rfl, hlt, ec4, w4, o4, p4⟩
  · have ei : all.length = i := by omega
    rw [List.drop_eq_nil_of_le (by omega)] at pc
    obtain ⟨dok, pc⟩ := ckd_ok pc
    exact .inl ⟨(y Hc gc Sc i ec wc dok).1 ei, pc _ Hc gc ec wc ⟨D, rfl, hD0, oc⟩⟩
theorem no_fold {e : Expr} {env : Env} (h : notMark e = true) (x : Value) : foldedSetIterable e env x = pure x := by
  cases e <;> first | rfl | cases h
theorem blk_e {X : Cx} {W : WX} {e : Expr} {m : EM} {s : Shared} {H : Hp} {scope : Scope} {cenv : Env} {fp : List Addr} (hc : X.calm = true) (h : SE (X.blk s H scope cenv fp) W e m) : PE (X.blk s H scope cenv fp) e (tE (kx X) W m) := by
  have e1 : kx (X.blk s H scope cenv fp) = kx X := by rw [kx_calm hc, kx_calm (X := X.blk s H scope cenv fp) hc]
  rw [← e1]
  exact h
theorem sf_lc (hc : X.calm = true) (hN : X.N.Nodup) (hi : PI X tg iter (tI (kx X) Ext W mi)) (ok : BlkOk X.N X.env.scope scope own)
    (hg : ∀ (s : Shared) (H : Hp) (C : Addr) (cl : List (Str × Addr)) (fp : List Addr), PG (X.blk s H scope (compEnvC scope cl C X.env) fp) tg (tGt (kx X) t))
    (ht : ∀ (s : Shared) (H : Hp) (C : Addr) (cl : List (Str × Addr)) (fp : List Addr), PTs (X.blk s H scope (compEnvC scope cl C X.env) fp) ifs (tT (kx X) WN tt))
    (he : ∀ (s : Shared) (H : Hp) (C : Addr) (cl : List (Str × Addr)) (fp : List Addr), SE (X.blk s H scope (compEnvC scope cl C X.env) fp) WN elt te)
    (hs : ∀ i ∈ t.slots, i ∈ own.map (·.2)) (hm : notMark iter = true) : SF X W (.ListComp elt [⟨tg, iter, ifs, 0⟩] scope pos) (fLc mi (own.map (·.2)) t tt te) :=
  PE.imp (pe_lc hc hN hi ok hg ht (fun s H C cl fp => blk_e hc (he s H C cl fp)) (no_fold hm)) fun σ H Q q => lc_read hs q
end
end Rf
set_option Elab.async false
set_option linter.all false
set_option maxRecDepth 100000
namespace Rf
open PySem L2 TL
inductive Fl where
  | nx | rt (d : D) | bk | ct
inductive RS where
  | ok (f : Fl) (L : Ls) (S : Sto) | ex (x : Exn) (L : Ls) (S : Sto) | no
abbrev SM := Ls → Sto → RS
@[reducible] def R.st {α : Type} (r : R α) (L : Ls) (f : α → Sto → RS) : RS := match r with
  | .ok a S => f a S
  | .ex x S => .ex x L S
  | .no => .no
@[reducible] def RS.seq (r : RS) (f : Ls → Sto → RS) : RS := match r with
  | .ok .nx L S => f L S
  | r => r
/-- the state of a frame whose call began at B -/
structure Fr (k : Kx) (B : Hp) (gB : G) (σ : L2.St) (L : Ls) (H : Hp) (g : G) (S : Sto) : Prop where
  loc : LocRel k σ L H g
  wf : WF k H g S
  base : Ext B gB H g
  new : ∀ (i : Nat) (o : O) (a : Addr), L[i]? = some (.o o) → σ[i]? = some (some (.ref a)) → B a = none
def EndsAt (k : Kx) (D : Ends) (f : Fl) (σ : L2.St) (H : Hp) (g : G) : Prop := match f with
  | .nx => D.nx σ H
  | .bk => D.bk σ H
  | .ct => D.ct σ H
  | .rt d => ∀ v, Rep k H g d v → D.rt v H
def SPost (k : Kx) (B : Hp) (gB : G) (W : WX) (H : Hp) (g : G) (r : RS) (D : Ends) : Prop := match r with
  | .ok f L S => ∀ σ' H' g', Fr k B gB σ' L H' g' S → PExt H g H' g' → EndsAt k D f σ' H' g'
  | .ex x L S => ∀ c d σ' H' g', Fr k B gB σ' L H' g' S → PExt H g H' g' → XRep k H' g' x c d → W c d σ' H'
  | .no => False
def tS (k : Kx) (W : WX) (m : SM) : TS := fun D σ H => ∃ L S g B gB, Fr k B gB σ L H g S ∧ SPost k B gB W H g (m L S) D
theorem PS.imp {X : Cx} {st : Stmt} {t t' : TS} (h : PS X st t) (i : ∀ D σ H, t' D σ H → t D σ H) : PS X st t' := ⟨fun pins s σ H D I q => h.run pins s σ H D I (i D σ H q)⟩
theorem PSs.imp {X : Cx} {st : List Stmt} {t t' : TS} (h : PSs X st t) (i : ∀ D σ H, t' D σ H → t D σ H) : PSs X st t' := ⟨fun pins s σ H D I q => h.run pins s σ H D I (i D σ H q)⟩
abbrev SS (X : Cx) (W : WX) (st : Stmt) (m : SM) : Prop := PS X st (tS (kx X) W m)
abbrev SB (X : Cx) (W : WX) (st : List Stmt) (m : SM) : Prop := PSs X st (tS (kx X) W m)
section
variable {α β : Type} {k : Kx} {B : Hp} {gB : G} {W : WX} {σ : L2.St} {L : Ls} {H H' H1 : Hp} {g g' g1 : G} {S S1 : Sto} {r : RS} {E : Ends}
theorem SPost.from (h : SPost k B gB W H g r E) (e : PExt H g H' g') : SPost k B gB W H' g' r E := by
  cases r with
  | ok f L S => exact fun σ2 H2 g2 fr e2 => h σ2 H2 g2 fr (e.trans e2)
  | ex x L S => exact fun c d σ2 H2 g2 fr e2 => h c d σ2 H2 g2 fr (e.trans e2)
  | no => exact h
theorem Fr.ext (f : Fr k B gB σ L H g S) (e : Ext H g H1 g1) (w : WF k H1 g1 S1) : Fr k B gB σ L H1 g1 S1 := ⟨f.loc.ext e, w, f.base.trans e, f.new⟩
theorem st_e {P : Hp → G → α → β → Prop} {x : R α} {f : α → Sto → RS} {Q : β → Hp → Prop} (fr : Fr k B gB σ L H g S) (p : SPost k B gB W H g (R.st x L f) E)
    (hk : ∀ a S1 b H1 g1, Fr k B gB σ L H1 g1 S1 → Ext H g H1 g1 → P H1 g1 a b → SPost k B gB W H1 g1 (f a S1) E → Q b H1) : Post k P H g (fun c d => W c d σ) x Q := by
  cases x with
  | ok a S1 => exact fun b H1 g1 e w q => hk a S1 b H1 g1 (fr.ext e w) e q (SPost.from p e.toPExt)
  | ex x S1 => exact fun c d H1 g1 e w q => p c d σ H1 g1 (fr.ext e w) e.toPExt q
  | no => exact p
theorem SPost.nx (h : SPost k B gB W H g (.ok .nx L S) E) (fr : Fr k B gB σ L H g S) : E.nx σ H := h σ H g fr (PExt.refl H g)
theorem Fr.set {i : Nat} {d : D} {v : V} (f : Fr k B gB σ L H g S) (r : Rep k H g d v) : Fr k B gB (σ.set i (some v)) (L.set i (.v d)) H g S where
  loc := f.loc.set r
  wf := f.wf
  base := f.base
  new := fun j o a h h' => by
    by_cases hj : i = j
    · subst hj
      by_cases hl : i < L.length
      · rw [List.getElem?_set_self hl] at h; cases h
      · rw [List.getElem?_eq_none (by rw [List.length_set]; omega)] at h; cases h
    · rw [List.getElem?_set_ne hj] at h h'
      exact f.new j o a h h'
/-- an own object is put into a slot -/
theorem Fr.put {i : Nat} {o : O} {a : Addr} (f : Fr k B gB σ L H g S) (h : OwnAt k H g a o) (hB : B a = none) (hs : ∀ j u, j ≠ i → L[j]? = some (.o u) → σ[j]? ≠ some (some (.ref a))) : Fr k B gB (σ.set i (some (.ref a))) (L.set i (.o o)) H g S where
  loc := {
    len := by rw [List.length_set, List.length_set, f.loc.len]
    val := fun j e h => by
      by_cases hj : i = j
      · subst hj
        by_cases hl : i < L.length
        · rw [List.getElem?_set_self hl] at h; cases h
        · rw [List.getElem?_eq_none (by rw [List.length_set]; omega)] at h; cases h
      · rw [List.getElem?_set_ne hj] at h ⊢
        exact f.loc.val j e h
    own := fun j u h => by
      by_cases hj : i = j
      · subst hj
        by_cases hl : i < L.length
        · rw [List.getElem?_set_self hl] at h
          cases h
          exact ⟨a, by rw [List.getElem?_set_self (by rw [f.loc.len]; exact hl)], by assumption⟩
        · rw [List.getElem?_eq_none (by rw [List.length_set]; omega)] at h; cases h
      · rw [List.getElem?_set_ne hj] at h ⊢
        exact f.loc.own j u h
    sep := fun j l u w b hj hl pj pl => by
      by_cases ej : i = j
      · by_cases el : i = l
        · omega
        · subst ej
          by_cases hi : i < L.length
          · rw [List.getElem?_set_ne el] at hl pl
            rw [List.getElem?_set_self (by rw [f.loc.len]; exact hi)] at pj
            cases pj
            exact absurd pl (hs l w (fun z => el z.symm) hl)
          · rw [List.getElem?_eq_none (by rw [List.length_set]; omega)] at hj; cases hj
      · by_cases el : i = l
        · subst el
          by_cases hi : i < L.length
          · rw [List.getElem?_set_ne ej] at hj pj
            rw [List.getElem?_set_self (by rw [f.loc.len]; exact hi)] at pl
            cases pl
            exact absurd pj (hs j u (fun z => ej z.symm) hj)
          · rw [List.getElem?_eq_none (by rw [List.length_set]; omega)] at hl; cases hl
        · rw [List.getElem?_set_ne ej] at hj pj
          rw [List.getElem?_set_ne el] at hl pl
          exact f.loc.sep j l u w b hj hl pj pl
    exc := f.loc.exc.set nofun }
  wf := f.wf
  base := f.base
  new := fun j u b h h' => by
    by_cases hj : i = j
    · subst hj
      by_cases hl : i < L.length
      · rw [List.getElem?_set_self (by rw [f.loc.len]; exact hl)] at h'
        cases h'; exact hB
      · rw [List.getElem?_eq_none (by rw [List.length_set]; omega)] at h; cases h
    · rw [List.getElem?_set_ne hj] at h h'
      exact f.new j u b h h'
theorem Fr.fresh {H0 : Hp} {g0 : G} {S0 : Sto} {i : Nat} {ds : List D} {v : V} (f0 : Fr k B gB σ L H0 g0 S0) (f : Fr k B gB σ L H g S) (h : FRep k H0 H g ds v) : Fr k B gB (σ.set i (some v)) (L.set i (.o (.lst ds))) H g S := by
  obtain ⟨a, rfl, hn, oa⟩ := h
  refine f.put oa (fresh_of f0.base hn) fun j u _ hj hp => ?_
  obtain ⟨b, hb, ob⟩ := f0.loc.own j u hj
  rw [hp] at hb
  cases hb
  obtain ⟨w, q⟩ := ob.1.tr
  rw [hn] at q; cases q
theorem own_at {i j : Nat} {o u : O} (h : (L.set i (.o o))[j]? = some (.o u)) (hi : ∃ w, L[i]? = some (.o w)) : ∃ w, L[j]? = some (.o w) := by
  by_cases hj : i = j
  · subst hj; exact hi
  · rw [List.getElem?_set_ne hj] at h; exact ⟨u, h⟩
/-- an own list is changed -/
theorem Fr.chg {i : Nat} {ds es : List D} {a : Addr} {vs : List V} (f : Fr k B gB σ L H g S) (hi : L[i]? = some (.o (.lst ds))) (ha : σ[i]? = some (some (.ref a))) (r : RepL k H g es vs) :
    Fr k B gB σ (L.set i (.o (.lst es))) (upd H a (.lst vs)) g S ∧ PExt H g (upd H a (.lst vs)) g := by
  obtain ⟨b, hb, oa⟩ := f.loc.own i _ hi
  rw [ha] at hb
  cases hb
  have pe := own_pext (vs := vs) oa
  have hl : i < L.length := (List.getElem?_eq_some_iff.mp hi).1
  refine ⟨⟨⟨by rw [List.length_set, f.loc.len], fun j e h => ?_, fun j u h => ?_, fun j l u w b hj hl pj pl => ?_, (f.loc.exc.mono pe).setL nofun⟩, own_wf oa f.wf, own_ext oa f.base (f.new i _ a hi ha), fun j u b h h' => ?_⟩, pe⟩
  · by_cases hj : i = j
    · subst hj
      rw [List.getElem?_set_self hl] at h; cases h
    · rw [List.getElem?_set_ne hj] at h
      obtain ⟨v, q1, q2⟩ := f.loc.val j e h
      exact ⟨v, q1, q2.mono pe _ _⟩
  · by_cases hj : i = j
    · subst hj
      rw [List.getElem?_set_self hl] at h
      cases h
      exact ⟨a, ha, own_own oa r⟩
    · rw [List.getElem?_set_ne hj] at h
      obtain ⟨b, q1, q2⟩ := f.loc.own j u h
      have hb : b ≠ a := fun z => by
        subst z
        exact hj (f.loc.sep i j _ u b hi h ha q1)
      exact ⟨b, q1, q2.1.mono pe fun o q => by rw [upd_ne hb]; exact q, q2.2⟩
  · obtain ⟨u', hj⟩ := own_at hj ⟨_, hi⟩
    obtain ⟨w', hl⟩ := own_at hl ⟨_, hi⟩
    exact f.loc.sep j l u' w' b hj hl pj pl
  · obtain ⟨u', h⟩ := own_at h ⟨_, hi⟩
    exact f.new j u' b h h'
/-- an object of the store is changed -/
theorem Fr.obj {n : Nat} {ds es : List D} {vs : List V} (f : Fr k B gB σ L H g S) (hn : S[n]? = some (.lst ds)) (r : RepL k H g es vs) :
    Fr k B gB σ L (upd H (g.ρ n) (.lst vs)) g (S.set n (.lst es)) ∧ PExt H g (upd H (g.ρ n) (.lst vs)) g := by
  have hl : n < S.length := (List.getElem?_eq_some_iff.mp hn).1
  have hg : n < g.n := by rw [← f.wf.len]; exact hl
  obtain ⟨us, hu, _⟩ := f.wf.ob n _ hn
  have pe : PExt H g (upd H (g.ρ n) (.lst vs)) g := by
    refine ⟨fun _ f => f, fun b o q1 q => ?_, fun b xs q => ?_, fun b o u q => ?_, Nat.le_refl _, fun _ _ => rfl⟩
    · rw [upd_ne (fun z => f.wf.nF n hg (by rw [← z]; exact q1))]; exact q
    · rw [upd_ne (fun z => by rw [z, hu] at q; cases q)]; exact q
    · rw [upd_ne (fun z => by rw [z, hu] at q; cases q)]; exact q
  refine ⟨⟨⟨f.loc.len, fun j e h => ?_, fun j u h => ?_, f.loc.sep, f.loc.exc.mono pe⟩, ?_, ?_, f.new⟩, pe⟩
  · obtain ⟨v, q1, q2⟩ := f.loc.val j e h
    exact ⟨v, q1, q2.mono pe _ _⟩
  · obtain ⟨b, q1, q2⟩ := f.loc.own j u h
    exact ⟨b, q1, q2.1.mono pe fun o q => by rw [upd_ne (fun z => q2.2.2 n hg z.symm)]; exact q, q2.2⟩
  · refine ⟨by rw [List.length_set]; exact f.wf.len, fun i o h => ?_, f.wf.inj, f.wf.nF, fun a q => ?_⟩
    · by_cases hi : n = i
      · subst hi
        rw [List.getElem?_set_self hl] at h
        cases h
        exact ⟨vs, upd_same, r.mono pe _ _⟩
      · rw [List.getElem?_set_ne hi] at h
        have hi' : i < g.n := by rw [← f.wf.len]; exact (List.getElem?_eq_some_iff.mp h).1
        exact (f.wf.ob i o h).mono pe fun o q => by rw [upd_ne (fun z => hi (f.wf.inj i n hi' hg z).symm)]; exact q
    · obtain ⟨o, z⟩ := f.wf.tF a q
      exact ⟨o, by rw [upd_ne (fun y => f.wf.nF n hg (by rw [← y]; exact q))]; exact z⟩
  · have e := f.base
    have key : ∀ b o, B b = some o → (∀ i, i < gB.n → gB.ρ i ≠ b) → b ≠ g.ρ n := fun b o q hb z => by
      by_cases h : n < gB.n
      · exact hb n h (by rw [z, e.ρ n h])
      · have y := e.newρ n (Nat.le_of_not_lt h) hg
        rw [← z, q] at y; cases y
    refine ⟨⟨e.F, fun b o q1 q => ?_, fun b xs q => ?_, fun b o u q => ?_, e.n, e.ρ⟩, fun b o q hb => ?_, e.newF, e.newρ, fun b o q => ?_⟩
    · exact pe.kF b o (e.F b q1) (e.kF b o q1 q)
    · exact pe.kT b xs (e.kT b xs q)
    · exact pe.kZ b o u (e.kZ b o u q)
    · rw [upd_ne (key b o q hb)]; exact e.keep b o q hb
    · by_cases z : b = g.ρ n
      · subst z; exact ⟨_, upd_same⟩
      · obtain ⟨u, y⟩ := e.tr b o q
        exact ⟨u, by rw [upd_ne z]; exact y⟩
/-- an own list is never written again -/
theorem Fr.frz {i : Nat} {ds : List D} (f : Fr k B gB σ L H g S) (hi : L[i]? = some (.o (.lst ds))) : ∃ g', Fr k B gB σ (L.set i (.v (.lst ds))) H g' S ∧ PExt H g H g' := by
  obtain ⟨a, ha, oa⟩ := f.loc.own i _ hi
  have hl : i < L.length := (List.getElem?_eq_some_iff.mp hi).1
  have pe : PExt H g H (g.frz a) := PExt.frz
  have ow : ∀ {j : Nat} {u : O}, (L.set i (.v (.lst ds)))[j]? = some (.o u) → i ≠ j ∧ L[j]? = some (.o u) := fun {j u} h => by
    by_cases hj : i = j
    · subst hj
      rw [List.getElem?_set_self hl] at h; cases h
    · rw [List.getElem?_set_ne hj] at h; exact ⟨hj, h⟩
  refine ⟨g.frz a, ⟨⟨by rw [List.length_set, f.loc.len], fun j e h => ?_, fun j u h => ?_, fun j l u w b hj hl pj pl => f.loc.sep j l u w b (ow hj).2 (ow hl).2 pj pl, (f.loc.exc.mono pe).setL nofun⟩, f.wf.frzOwn oa, f.base.frzNew (f.new i _ a hi ha), fun j u b h h' => f.new j u b (ow h).2 h'⟩, pe⟩
  · by_cases hj : i = j
    · subst hj
      rw [List.getElem?_set_self hl] at h
      cases h
      exact ⟨_, ha, oa.frz⟩
    · rw [List.getElem?_set_ne hj] at h
      obtain ⟨v, q1, q2⟩ := f.loc.val j e h
      exact ⟨v, q1, q2.mono pe _ _⟩
  · obtain ⟨hj, h⟩ := ow h
    obtain ⟨b, q1, q2⟩ := f.loc.own j u h
    refine ⟨b, q1, q2.1.mono pe fun o q => q, fun z => ?_, q2.2.2⟩
    rcases z with z | z
    · subst z
      exact hj (f.loc.sep i j _ u b hi h ha q1)
    · exact q2.2.1 z
end
end Rf
set_option Elab.async false
set_option linter.all false
set_option maxRecDepth 100000
namespace Rf
open PySem L2 TL
def sNil : SM := fun L S => .ok .nx L S
def sSeq (a b : SM) : SM := fun L S => (a L S).seq b
def sBrk : SM := fun L S => .ok .bk L S
def sCnt : SM := fun L S => .ok .ct L S
def sRet (m : EM) : SM := fun L S => (m L S).st L fun d S1 => .ok (.rt d) L S1
def sRetN : SM := fun L S => .ok (.rt .non) L S
def sDrop (m : EM) : SM := fun L S => (m L S).st L fun _ S1 => .ok .nx L S1
def sSet (i : Nat) (m : EM) : SM := fun L S => (m L S).st L fun d S1 => .ok .nx (L.set i (.v d)) S1
def sOwn (i : Nat) (m : Ls → Sto → R (List D)) : SM := fun L S => (m L S).st L fun ds S1 => .ok .nx (L.set i (.o (.lst ds))) S1
def sFrz (i : Nat) (m : SM) : SM := fun L S => match L[i]? with
  | some (.o (.lst ds)) => m (L.set i (.v (.lst ds))) S
  | _ => m L S
def sTg (t : Tg) (m : EM) : SM := fun L S => (m L S).st L fun d S1 => match tgA t d L with
  | some L1 => .ok .nx L1 S1
  | none => .no
def sPar2 (i j : Nat) (m : Ls → Sto → R (List D)) : SM := fun L S => (m L S).st L fun ds S1 => match ds with
  | [d, e] => .ok .nx ((L.set i (.v d)).set j (.v e)) S1
  | _ => .no
def sPar3 (i j l : Nat) (m : Ls → Sto → R (List D)) : SM := fun L S => (m L S).st L fun ds S1 => match ds with
  | [d, e, f] => .ok .nx (((L.set i (.v d)).set j (.v e)).set l (.v f)) S1
  | _ => .no
def sIf (c : Ls → Sto → R Bool) (a b : SM) : SM := fun L S => (c L S).st L fun t S1 => if t = true then a L S1 else b L S1
/-- the own list at i, the store's object -/
def sApp (i : Nat) (m : EM) : SM := fun L S => match L[i]? with
  | some (.o (.lst ds)) => (m L S).st L fun d S1 => if ds.length < sizeLine then .ok .nx (L.set i (.o (.lst (ds ++ [d])))) S1 else .no
  | _ => .no
def sAppO (mo m : EM) : SM := fun L S => (mo L S).st L fun o S1 => match o with
  | .obj n => match S1[n]? with
    | some (.lst _) => (m L S1).st L fun d S2 => match S2[n]? with
      | some (.lst ds) => if ds.length < sizeLine then .ok .nx L (S2.set n (.lst (ds ++ [d]))) else .no
      | _ => .no
    | _ => .no
  | _ => .no
def sPut (i : Nat) (mi mv : EM) : SM := fun L S => (mv L S).st L fun d S1 => match L[i]? with
  | some (.o (.lst ds)) => (mi L S1).st L fun j S2 => match j with
    | .int k => match ixN ds.length k with
      | some jj => .ok .nx (L.set i (.o (.lst (ds.set jj d)))) S2
      | none => .no
    | _ => .no
  | _ => .no
def sPutO (mo mi mv : EM) : SM := fun L S => (mv L S).st L fun d S1 => (mo L S1).st L fun o S2 => match o with
  | .obj n => (mi L S2).st L fun j S3 => match j with
    | .int k => match S3[n]? with
      | some (.lst ds) => match ixN ds.length k with
        | some jj => .ok .nx L (S3.set n (.lst (ds.set jj d)))
        | none => .no
      | _ => .no
    | _ => .no
  | _ => .no
def sAug (i : Nat) (o : D → D → Option D) (m : EM) : SM := fun L S => match L[i]? with
  | some (.v x) => (m L S).st L fun y S1 => match o (deref S1 x) (deref S1 y) with
    | some z => .ok .nx (L.set i (.v z)) S1
    | none => .no
  | _ => .no
open Classical in
noncomputable def ckS (S : Sto) (all : List D) (dep : Dep) (r : RS) : RS := match dep with
  | none => r
  | some l => if DepC S l then r else .no
noncomputable def forL (dep : Dep) (all : List D) (t : Tg) (b : SM) : List D → SM
  | [], L, S => ckS S all dep (.ok .nx L S)
  | d :: ds, L, S => ckS S all dep (match tgA t d L with
    | none => .no
    | some L1 => match b L1 S with
      | .ok .nx L2 S2 => forL dep all t b ds L2 S2
      | .ok .ct L2 S2 => forL dep all t b ds L2 S2
      | .ok .bk L2 S2 => .ok .nx L2 S2
      | r => r)
noncomputable def sFor (mi : Ls → Sto → R Src) (t : Tg) (b : SM) : SM := fun L S => (mi L S).st L fun src S1 => forL src.2 src.1 t b src.1 L S1
def whl (c : Ls → Sto → R Bool) (b : SM) : Nat → SM
  | 0, _, _ => .no
  | n + 1, L, S => (c L S).st L fun t S1 => if t = true then match b L S1 with
      | .ok .nx L2 S2 => whl c b n L2 S2
      | .ok .ct L2 S2 => whl c b n L2 S2
      | .ok .bk L2 S2 => .ok .nx L2 S2
      | r => r
    else .ok .nx L S1
open Classical in
noncomputable def sWhl (c : Ls → Sto → R Bool) (b : SM) : SM := fun L S => if h : ∃ n, whl c b n L S ≠ .no then whl c b (Classical.choose h) L S else .no
theorem set_own {L : Ls} {i j : Nat} {d : D} {o : O} (h : (L.set i (.v d))[j]? = some (.o o)) : i ≠ j ∧ L[j]? = some (.o o) := by
  by_cases hj : i = j
  · subst hj
    by_cases hl : i < L.length
    · rw [List.getElem?_set_self hl] at h; cases h
    · rw [List.getElem?_eq_none (by rw [List.length_set]; omega)] at h; cases h
  · rw [List.getElem?_set_ne hj] at h; exact ⟨hj, h⟩
mutual
theorem tg_own : ∀ (t : Tg) (d : D) (L L1 : Ls) (j : Nat) (o : O), tgA t d L = some L1 → L1[j]? = some (.o o) → j ∉ t.slots ∧ L[j]? = some (.o o)
  | .nm i, d, L, L1, j, o, q, h => by
    cases q
    obtain ⟨h1, h2⟩ := set_own h
    exact ⟨by simp [Tg.slots, Ne.symm h1], h2⟩
  | .tup ts, .tup ds, L, L1, j, o, q, h => tgs_own ts ds L L1 j o q h
  | .tup ts, .lst ds, L, L1, j, o, q, h => tgs_own ts ds L L1 j o q h
  | .tup _, .non, _, _, _, _, q, _ => nomatch q
  | .tup _, .bl _, _, _, _, _, q, _ => nomatch q
  | .tup _, .int _, _, _, _, _, q, _ => nomatch q
  | .tup _, .str _, _, _, _, _, q, _ => nomatch q
  | .tup _, .obj _, _, _, _, _, q, _ => nomatch q
  | .tup _, .gl _, _, _, _, _, q, _ => nomatch q
  | .tup _, .ty _, _, _, _, _, q, _ => nomatch q
  | .tup _, .scr _, _, _, _, _, q, _ => nomatch q
theorem tgs_own : ∀ (ts : List Tg) (ds : List D) (L L1 : Ls) (j : Nat) (o : O), tgAs ts ds L = some L1 → L1[j]? = some (.o o) → j ∉ Tg.slotsL ts ∧ L[j]? = some (.o o)
  | [], [], L, L1, j, o, q, h => by cases q; exact ⟨by simp [Tg.slotsL], h⟩
  | [], _ :: _, _, _, _, _, q, _ => nomatch q
  | _ :: _, [], _, _, _, _, q, _ => nomatch q
  | t :: ts, d :: ds, L, L1, j, o, q, h => by
    simp only [tgAs] at q
    split at q
    · rename_i L2 e
      obtain ⟨h1, h2⟩ := tgs_own ts ds L2 L1 j o q h
      obtain ⟨h3, h4⟩ := tg_own t d L L2 j o e h2
      exact ⟨by simp only [Tg.slotsL, List.mem_append, not_or]; exact ⟨h3, h1⟩, h4⟩
    · cases q
end
theorem tg_fr {k : Kx} {B H : Hp} {gB g : G} {σ σ' : L2.St} {L L1 : Ls} {S : Sto} {t : Tg} {d : D} (f : Fr k B gB σ L H g S) (l : LocRel k σ' L1 H g) (q : tgA t d L = some L1) (fm : Frm t.slots σ σ') : Fr k B gB σ' L1 H g S :=
  ⟨l, f.wf, f.base, fun i o a h h' => by
    obtain ⟨h1, h2⟩ := tg_own t d L L1 i o q h
    rw [fm.2 i h1] at h'
    exact f.new i o a h2 h'⟩
section
variable {X : Cx} {W : WX} {st : Stmt} {sts rest : List Stmt} {e c : Expr} {pos pos' : Pos} {m ma mb : EM} {a b : SM}
theorem sb_nil : SB X W [] sNil := PSs.imp pss_nil fun D σ H ⟨L, S, g, B, gB, f, p⟩ => SPost.nx p f
theorem seq_read {D : Ends} {σ : L2.St} {H : Hp} {k : Kx} (h : tS k W (sSeq a b) D σ H) : tSeq (tS k W a) (tS k W b) D σ H := by
  obtain ⟨L, S, g, B, gB, f, p⟩ := h
  refine ⟨L, S, g, B, gB, f, ?_⟩
  have p0 : SPost k B gB W H g ((a L S).seq b) D := p
  cases q : a L S with
  | no => rw [q] at p0; exact p0
  | ex x L1 S1 => rw [q] at p0; exact p0
  | ok fl L1 S1 =>
    rw [q] at p0
    cases fl with
    | nx => exact fun σ' H' g' f' e => ⟨L1, S1, g', B, gB, f', SPost.from p0 e⟩
    | _ => exact p0
theorem sb_cons (h1 : SS X W st a) (h2 : SB X W rest b) : SB X W (st :: rest) (sSeq a b) := PSs.imp (pss_cons h1 h2) fun D σ H h => seq_read h
theorem ss_cnt : SS X W (.Continue pos) sCnt := PS.imp ps_continue fun D σ H ⟨L, S, g, B, gB, f, p⟩ => p σ H g f (PExt.refl H g)
theorem ss_ret (h : SE X W e m) : SS X W (.Return (some e) pos) (sRet m) := PS.imp (ps_ret h) fun D σ H ⟨L, S, g, B, gB, f, p⟩ =>
  ⟨L, S, g, f.loc, f.wf, st_e f p fun d S1 v H1 g1 f1 e1 r p1 => p1 σ H1 g1 f1 (PExt.refl H1 g1) v r⟩
theorem no_swap (h : notComp e = true) {t : Option Expr} {l : Nat} {env : Env} : swapsWith e t l env = pure false := by
  cases e <;> first | rfl | cases h
theorem ss_drop (h : SE X W e m) (hn : notComp e = true) : SS X W (.Expr e pos) (sDrop m) := PS.imp (ps_expr h (no_swap hn)) fun D σ H ⟨L, S, g, B, gB, f, p⟩ =>
  ⟨L, S, g, f.loc, f.wf, st_e f p fun d S1 v H1 g1 f1 e1 r p1 => SPost.nx p1 f1⟩
theorem set_read {k : Kx} {i : Nat} {D : Ends} {σ : L2.St} {H : Hp} (h : tS k W (sSet i m) D σ H) : tAsg (tE k W m) (gName i) D σ H := by
  obtain ⟨L, S, g, B, gB, f, p⟩ := h
  exact ⟨L, S, g, f.loc, f.wf, st_e f p fun d S1 v H1 g1 f1 e1 r p1 => SPost.nx p1 (f1.set r)⟩
theorem own_read {k : Kx} {i : Nat} {mf : Ls → Sto → R (List D)} {D : Ends} {σ : L2.St} {H : Hp} (h : tS k W (sOwn i mf) D σ H) : tAsg (tF k W mf) (gName i) D σ H := by
  obtain ⟨L, S, g, B, gB, f, p⟩ := h
  exact ⟨L, S, g, f.loc, f.wf, st_e f p fun d S1 v H1 g1 f1 e1 r p1 => SPost.nx p1 (Fr.fresh f f1 r)⟩
theorem fz_read {k : Kx} {mf : Ls → Sto → R (List D)} {σ : L2.St} {H : Hp} {Q : VK} (h : tE k W (eFz mf) σ H Q) : tF k W mf σ H Q := by
  obtain ⟨L, S, g, l, w, p⟩ := h
  refine ⟨L, S, g, l, w, ?_⟩
  unfold eFz at p
  cases q : mf L S with
  | ok ds S1 =>
    rw [q] at p
    exact fun v H1 g1 e1 w1 ⟨a, h1, h2, h3⟩ => p v H1 (g1.frz a) (e1.frzNew h2) (w1.frzOwn h3) (by rw [h1]; exact h3.frz)
  | ex x S1 => rw [q] at p; exact p
  | no => rw [q] at p; exact p
section
variable {i j l : Nat} {x y z : Str} {mf : Ls → Sto → R (List D)}
theorem ss_set (hN : X.N.Nodup) (hi : X.N[i]? = some x) (hx : Loc X.env.scope x) (hf : X.fn x = true) (h : SE X W e m) (hn : notComp e = true) : SS X W (.Assign [.Name x pos'] e pos) (sSet i m) :=
  PS.imp (ps_set hN hi hx h (no_swap hn) (.inl hf)) fun D σ H q => set_read q
theorem ss_own (hN : X.N.Nodup) (hi : X.N[i]? = some x) (hx : Loc X.env.scope x) (hf : X.fn x = true) (h : SF X W e mf) (hn : notComp e = true) : SS X W (.Assign [.Name x pos'] e pos) (sOwn i mf) :=
  PS.imp (ps_set hN hi hx h (no_swap hn) (.inl hf)) fun D σ H q => own_read q
section
variable {elt tg iter : Expr} {ifs : List Expr} {scope : Scope} {own : List (Str × Nat)} {mi : Ls → Sto → R Src} {t : Tg} {tt : Ls → Sto → R Bool} {te : EM} {spos : Pos}
/-- name = [.. for ..] -/
theorem ps_lc (hc : X.calm = true) (hN : X.N.Nodup) (hy : X.N[i]? = some y) (hyl : X.env.scope.names.lookup y = some .local) (hk : X.env.scope.kind = .function) (hl : (pos'.line == spos.line) = true)
    (ha : (scope.names.any fun (n, k) => n == y && (k == .local || k == .cell)) = false) (hi : PI X tg iter (tI (kx X) Ext W mi)) (ok : BlkOk X.N X.env.scope scope own)
    (hg : ∀ (s : Shared) (H : Hp) (C : Addr) (cl : List (Str × Addr)) (fp : List Addr), PG (X.blk s H scope (compEnvC scope cl C X.env) fp) tg (tGt (kx X) t))
    (ht : ∀ (s : Shared) (H : Hp) (C : Addr) (cl : List (Str × Addr)) (fp : List Addr), PTs (X.blk s H scope (compEnvC scope cl C X.env) fp) ifs (tT (kx X) WN tt))
    (he : ∀ (s : Shared) (H : Hp) (C : Addr) (cl : List (Str × Addr)) (fp : List Addr), SE (X.blk s H scope (compEnvC scope cl C X.env) fp) WN elt te)
    (hs : ∀ i ∈ t.slots, i ∈ own.map (·.2)) (hm : notMark iter = true) : PS X (.Assign [.Name y pos'] (.ListComp elt [⟨tg, iter, ifs, 0⟩] scope spos) pos) (tAsg (tF (kx X) W (fLc mi (own.map (·.2)) t tt te)) (gName i)) :=
  PS.imp (ps_setLc hc hN hy hyl (sw_true hk hyl hl ha) hi ok hg ht (fun s H C cl fp => blk_e hc (he s H C cl fp)) (no_fold hm)) fun D σ H q => lc_read hs q
end
theorem ss_setLc (h : PS X st (tAsg (tF (kx X) W mf) (gName i))) : SS X W st (sSet i (eFz mf)) := PS.imp h fun D σ H q => fz_read (set_read q)
theorem ss_frz (h : SS X W st a) : SS X W st (sFrz i a) := PS.imp h fun D σ H ⟨L, S, g, B, gB, f, p⟩ => by
  unfold sFrz at p
  split at p
  · rename_i ds q
    obtain ⟨g', f', e⟩ := f.frz q
    exact ⟨_, S, g', B, gB, f', SPost.from p e⟩
  · exact ⟨L, S, g, B, gB, f, p⟩
theorem ss_tg {tg : Expr} {t : Tg} (hn : notComp e = true) (hw : swappedStores [tg] e X.env = pure none) (h1 : (assignEach [tg] X.env).map (·.2) = [assign tg X.env]) (h : SE X W e m) (hg : PG X tg (tGt (kx X) t)) :
    SS X W (.Assign [tg] e pos) (sTg t m) := PS.imp (ps_asg h hg (no_swap hn) hw h1) fun D σ H ⟨L, S, g, B, gB, f, p⟩ => ⟨L, S, g, f.loc, f.wf, st_e f p fun d S1 v H1 g1 f1 e1 r p1 => by
      cases q : tgA t d L with
      | none => rw [q] at p1; exact p1.elim
      | some L1 =>
        rw [q] at p1
        exact ⟨d, L, S1, g1, L1, r, f1.loc, f1.wf, q, fun σ' l' fm => SPost.nx p1 (tg_fr f1 l' q fm)⟩⟩
theorem par_read2 {k : Kx} {i j : Nat} {ma : Ls → Sto → R (List D)} {D : Ends} {σ : L2.St} {H : Hp} (h : tS k W (sPar2 i j ma) D σ H) : tPar i j (tAE k W ma) D σ H := by
  obtain ⟨L, S, g, B, gB, f, p⟩ := h
  refine ⟨L, S, g, f.loc, f.wf, st_e f p fun ds S1 vs H1 g1 f1 e1 r p1 => ?_⟩
  match ds, r, p1 with
  | [d, e], ⟨v, vr, e1, r1, w, wr, e2, r2, r3⟩, p1 =>
    subst e1 e2 r3
    exact ⟨v, w, rfl, SPost.nx p1 ((f1.set r1).set r2)⟩
  | [], _, p1 => exact p1.elim
  | [_], _, p1 => exact p1.elim
  | _ :: _ :: _ :: _, _, p1 => exact p1.elim
theorem ss_if {tc : Ls → Sto → R Bool} {p q : List Stmt} (hc : ST X W c tc) (ha : SB X W p a) (hb : SB X W q b) : SS X W (.If c p q pos) (sIf tc a b) := PS.imp (ps_if hc ha hb) fun D σ H ⟨L, S, g, B, gB, f, p⟩ =>
  ⟨L, S, g, f.loc, f.wf, st_e (P := fun _ _ (b c : Bool) => c = b) f p fun t S1 t' H1 g1 f1 e1 r p1 => by
    cases (show t' = t from r)
    cases t with
    | true => exact ⟨L, S1, g1, B, gB, f1, p1⟩
    | false => exact ⟨L, S1, g1, B, gB, f1, p1⟩⟩
theorem pe_app {o : Expr} {apos : Pos} {to te : TE} (ho : PE X o to) (he : PE X e te) (hs : noStar e = true) (hsup : notSuper o = true) (hl : (apos.endLine == pos.line) = true) :
    PE X (.Call (.Attribute o "append" apos) [e] [] pos) (tBM X.K "list" rAppend to (tCons te tNil)) :=
  pe_bm PySem.F.plainAttrs_list PySem.F.slot_list_append PySem.F.type_list_append mt_append ho (pa_cons he pa_nil (star_cons hs)) (not_super hsup) (by rw [star_cons hs]; rfl) hl (star_cons hs) rfl
theorem ss_app {i : Nat} {x : Str} {p apos : Pos} (hv : PE X (.Name x p) (tVar i)) (he : SE X W e m) (hs : noStar e = true) (hl : (apos.endLine == pos.line) = true) : SS X W (.Expr (.Call (.Attribute (.Name x p) "append" apos) [e] [] pos) pos') (sApp i m) :=
  PS.imp (ps_expr (pe_app hv he hs rfl hl) rfl) fun D σ H ⟨L, S, g, B, gB, f, p⟩ => by
    unfold sApp at p
    split at p
    · rename_i ds q
      obtain ⟨a, ha, oa⟩ := f.loc.own i _ q
      obtain ⟨us, hu, ru⟩ := id oa.1
      refine ⟨_, ha, .inl ⟨rfl, us, SqL.of hu⟩, L, S, g, f.loc, f.wf, st_e f p fun d S1 v H1 g1 f1 e1 r p1 => ?_⟩
      obtain ⟨us1, hu1, ru1⟩ := (oa.ext e1).1
      by_cases hz : ds.length < sizeLine
      · rw [if_pos hz] at p1
        obtain ⟨f2, pe⟩ := f1.chg q ha (ru1.append (.cons r .nil))
        exact ⟨a, us1, v, rfl, rfl, hu1, by rw [ru1.length]; exact hz, p1 σ _ g1 f2 pe⟩
      · rw [if_neg hz] at p1; exact p1.elim
    · exact p.elim
end
end
end Rf
set_option Elab.async false
set_option linter.all false
set_option maxRecDepth 100000
namespace Rf
open PySem L2 TL
theorem ckS_ok {k : Kx} {B : Hp} {gB : G} {W : WX} {H : Hp} {g : G} {S : Sto} {all : List D} {dep : Dep} {r : RS} {D : Ends} (h : SPost k B gB W H g (ckS S all dep r) D) : DepOk S all dep ∧ SPost k B gB W H g r D := by
  cases dep with
  | none => exact ⟨trivial, h⟩
  | some n =>
    unfold ckS at h
    dsimp only at h
    by_cases z : DepC S n
    · rw [if_pos z] at h; exact ⟨z, h⟩
    · rw [if_neg z] at h; exact h.elim
/-- a turn's end -/
theorem turn_end {k : Kx} {B : Hp} {gB : G} {W : WX} {H : Hp} {g : G} {r : RS} {D : Ends} {N : L2.St → Hp → Prop} {f : Ls → Sto → RS}
    (h : SPost k B gB W H g (match r with | .ok .nx L2 S2 => f L2 S2 | .ok .ct L2 S2 => f L2 S2 | .ok .bk L2 S2 => .ok .nx L2 S2 | r => r) D)
    (hN : ∀ σ' L' H' g' S', Fr k B gB σ' L' H' g' S' → PExt H g H' g' → SPost k B gB W H' g' (f L' S') D → N σ' H') : SPost k B gB W H g r { D with nx := N, ct := N, bk := D.nx } := by
  cases r with
  | no => exact h
  | ex x L S => exact h
  | ok fl L S =>
    cases fl with
    | nx => exact fun σ' H' g' fr e => hN σ' L H' g' S fr e (SPost.from h e)
    | ct => exact fun σ' H' g' fr e => hN σ' L H' g' S fr e (SPost.from h e)
    | bk => exact h
    | rt d => exact h
theorem for_read {k : Kx} {W : WX} {mi : Ls → Sto → R Src} {t : Tg} {b : SM} {D : Ends} {σ : L2.St} {H : Hp} (h : tS k W (sFor mi t b) D σ H) : tFor (tI k PExt W mi) (tGt k t) (tS k W b) D σ H := by
  obtain ⟨L, S, g, B, gB, f, p⟩ := h
  refine ⟨L, S, g, f.loc, f.wf, st_e f p fun src S1 J H1 g1 f1 e1 y p1 => ?_⟩
  obtain ⟨all, dep⟩ := src
  let Wv : Nat → Nat → L2.St → Hp → Prop := fun i m σ' H' => ∃ Lc Sc gc, m = all.length - i ∧ i ≤ all.length ∧ Fr k B gB σ' Lc H' gc Sc ∧ PExt H1 g1 H' gc ∧ SPost k B gB W H' gc (forL dep all t b (all.drop i) Lc Sc) D
  refine ⟨Wv, ⟨all.length, L, S1, g1, by omega, Nat.zero_le _, f1, PExt.refl H1 g1, by rw [List.drop_zero]; exact p1⟩, ?_⟩
  rintro i m σ2 H2 ⟨Lc, Sc, gc, rfl, hi, fc, ec, pc⟩
  by_cases hlt : i < all.length
  · rw [List.drop_eq_getElem_cons hlt] at pc
    obtain ⟨dok, pc⟩ := ckS_ok pc
    obtain ⟨go, yl⟩ := (y H2 gc Sc i ec fc.wf dok).2 all[i] (List.getElem?_eq_getElem hlt)
    refine .inr ⟨go, fun σ' H' => ∃ m', m' < all.length - i ∧ Wv (i + 1) m' σ' H', fun σ' H' h => h, fun x H3 hy => ?_⟩
    obtain ⟨e3, w3, r3⟩ := yl x H3 hy
    have f3 := fc.ext e3 w3
    cases q : tgA t all[i] Lc with
    | none => rw [q] at pc; exact pc.elim
    | some L1 =>
      rw [q] at pc
      refine ⟨all[i], Lc, Sc, gc, L1, r3, f3.loc, w3, q, fun σ4 l4 fm => ⟨L1, Sc, gc, B, gB, tg_fr f3 l4 q fm, turn_end (SPost.from pc e3.toPExt) fun σ' L' H' g' S' f' e' p' => ?_⟩⟩
      exact ⟨_, by omega, L', S', g', rfl, hlt, f', (ec.trans e3.toPExt).trans e', p'⟩
  · have ei : all.length = i := by omega
    rw [List.drop_eq_nil_of_le (by omega)] at pc
    obtain ⟨dok, pc⟩ := ckS_ok pc
    exact .inl ⟨(y H2 gc Sc i ec fc.wf dok).1 ei, SPost.nx pc fc⟩
theorem whl_read {k : Kx} {W : WX} {c : Ls → Sto → R Bool} {b : SM} {D : Ends} {σ : L2.St} {H : Hp} (h : tS k W (sWhl c b) D σ H) : tWhile (tT k W c) (tS k W b) D σ H := by
  obtain ⟨L, S, g, B, gB, f, p⟩ := h
  unfold sWhl at p
  split at p
  · rename_i hn
    refine ⟨fun m σ' H' => ∃ L S g, Fr k B gB σ' L H' g S ∧ SPost k B gB W H' g (whl c b m L S) D, ⟨_, L, S, g, f, p⟩, ?_⟩
    rintro m σ1 H1 ⟨L1, S1, g1, f1, p1⟩
    cases m with
    | zero => exact p1.elim
    | succ m =>
      refine ⟨L1, S1, g1, f1.loc, f1.wf, st_e (P := fun _ _ (b c : Bool) => c = b) f1 p1 fun t S2 t' H2 g2 f2 e2 r p2 => ?_⟩
      cases (show t' = t from r)
      cases t with
      | true =>
        rw [if_pos rfl] at p2 ⊢
        refine ⟨fun σ' H' => ∃ L S g, Fr k B gB σ' L H' g S ∧ SPost k B gB W H' g (whl c b m L S) D, fun σ' H' h => ⟨m, Nat.lt_succ_self m, h⟩, L1, S2, g2, B, gB, f2, turn_end p2 fun σ' L' H' g' S' f' e' p' => ⟨L', S', g', f', p'⟩⟩
      | false =>
        rw [if_neg Bool.false_ne_true] at p2 ⊢
        exact SPost.nx p2 f2
  · exact p.elim
section
variable {X : Cx} {W : WX} {c tg iter : Expr} {body : List Stmt} {pos : Pos} {b : SM} {mc : Ls → Sto → R Bool} {mi : Ls → Sto → R Src} {t : Tg}
theorem ss_while (hp : PassesOwn (model X.prog X.w) X.A X.env X.xe) (hc : ST X W c mc) (hb : SB X W body b) : SS X W (.While c body [] pos) (sWhl mc b) := PS.imp (ps_while hp hc hb) fun D σ H h => whl_read h
theorem ss_for (hp : PassesOwn (model X.prog X.w) X.A X.env X.xe) (hc : X.calm = true) (hi : PI X tg iter (tI (kx X) PExt W mi)) (hg : PG X tg (tGt (kx X) t)) (hb : SB X W body b) (hm : notMark iter = true) : SS X W (.For tg iter body [] pos) (sFor mi t b) :=
  PS.imp (ps_for hp hc hi hg hb (no_fold hm)) fun D σ H h => for_read h
end
theorem whl_more {c : Ls → Sto → R Bool} {b : SM} : ∀ (n : Nat) (L : Ls) (S : Sto), whl c b n L S ≠ .no → whl c b (n + 1) L S = whl c b n L S
  | 0, L, S, h => absurd rfl h
  | n + 1, L, S, h => by
    rw [whl, whl]
    rw [whl] at h
    cases q : c L S with
    | no => rfl
    | ex x S1 => rfl
    | ok t S1 =>
      rw [q] at h
      cases t with
      | false => rfl
      | true =>
        dsimp only [R.st] at h ⊢
        simp only [if_true] at h ⊢
        cases z : b L S1 with
        | no => rfl
        | ex x L2 S2 => rfl
        | ok fl L2 S2 =>
          rw [z] at h
          cases fl with
          | nx => exact whl_more n L2 S2 h
          | ct => exact whl_more n L2 S2 h
          | bk => rfl
          | rt d => rfl
theorem whl_le {c : Ls → Sto → R Bool} {b : SM} {L : Ls} {S : Sto} {n : Nat} (h : whl c b n L S ≠ .no) (j : Nat) : whl c b (n + j) L S = whl c b n L S := by
  induction j with
  | zero => rfl
  | succ j ih => rw [← Nat.add_assoc, whl_more _ _ _ (by rw [ih]; exact h), ih]
theorem sWhl_eq {c : Ls → Sto → R Bool} {b : SM} {L : Ls} {S : Sto} {n : Nat} (h : whl c b n L S ≠ .no) : sWhl c b L S = whl c b n L S := by
  have e : ∃ n, whl c b n L S ≠ .no := ⟨n, h⟩
  unfold sWhl
  rw [dif_pos e]
  have h2 := Classical.choose_spec e
  rcases Nat.le_total (Classical.choose e) n with z | z
  · obtain ⟨j, rfl⟩ := Nat.exists_eq_add_of_le z
    rw [whl_le h2]
  · obtain ⟨j, hj⟩ := Nat.exists_eq_add_of_le z
    rw [hj, whl_le h]
def endR : RS → R D
  | .ok .nx _ S => .ok .non S
  | .ok (.rt d) _ S => .ok d S
  | .ex x _ S => .ex x S
  | _ => .no
def fnSem (n np : Nat) (m : SM) : Fn := fun ds S => if ds.length = np then endR (m (ds.map .v ++ List.replicate (n - np) .un) S) else .no
theorem loc_start {k : Kx} {H : Hp} {g : G} {ds : List D} {vs : List V} {N : List Str} (r : RepL k H g ds vs) : LocRel k (L2.start N vs) (ds.map .v ++ List.replicate (N.length - ds.length) .un) H g where
  len := by unfold L2.start; simp [r.length]
  val := fun i d h => by
    unfold L2.start
    by_cases hi : i < ds.length
    · rw [List.getElem?_append_left (by rw [List.length_map]; exact hi), List.getElem?_map] at h
      cases q : ds[i]? with
      | none => rw [q] at h; cases h
      | some e =>
        rw [q] at h
        cases h
        obtain ⟨v, h1, h2⟩ := r.get q
        exact ⟨v, by rw [List.getElem?_append_left (by rw [List.length_map, r.length]; exact hi), List.getElem?_map, h1]; rfl, h2⟩
    · rw [List.getElem?_append_right (by rw [List.length_map]; omega), List.getElem?_replicate] at h
      split at h <;> cases h
  own := fun i o h => by
    by_cases hi : i < ds.length
    · rw [List.getElem?_append_left (by rw [List.length_map]; exact hi), List.getElem?_map] at h
      cases q : ds[i]? with
      | none => rw [q] at h; cases h
      | some e => rw [q] at h; cases h
    · rw [List.getElem?_append_right (by rw [List.length_map]; omega), List.getElem?_replicate] at h
      split at h <;> cases h
  sep := fun i j o u a h => by
    by_cases hi : i < ds.length
    · rw [List.getElem?_append_left (by rw [List.length_map]; exact hi), List.getElem?_map] at h
      cases q : ds[i]? with
      | none => rw [q] at h; cases h
      | some e => rw [q] at h; cases h
    · rw [List.getElem?_append_right (by rw [List.length_map]; omega), List.getElem?_replicate] at h
      split at h <;> cases h
  exc := fun i x h => by
    by_cases hi : i < ds.length
    · rw [List.getElem?_append_left (by rw [List.length_map]; exact hi), List.getElem?_map] at h
      cases q : ds[i]? with
      | none => rw [q] at h; cases h
      | some e => rw [q] at h; cases h
    · rw [List.getElem?_append_right (by rw [List.length_map]; omega), List.getElem?_replicate] at h
      split at h <;> cases h
theorem fn_body {k : Kx} {n np : Nat} {m : SM} {N : List Str} {vs : List V} {H : Hp} {Q : VK} {E : XK} (hn : N.length = n) (h : spC k (fnSem n np m) vs H Q E) :
    tS k (fun c d _ H => E c d H) m { nx := fun _ H' => Q .non H', rt := Q } (L2.start N vs) H := by
  obtain ⟨ds, S, g, r, w, p⟩ := h
  unfold fnSem at p
  split at p
  · rename_i hl
    subst hn
    subst hl
    refine ⟨_, S, g, H, g, ⟨loc_start r, w, Ext.refl H g, fun i o a h h' => ?_⟩, ?_⟩
    · exfalso
      by_cases hi : i < ds.length
      · rw [List.getElem?_append_left (by rw [List.length_map]; exact hi), List.getElem?_map] at h
        cases q : ds[i]? with
        | none => rw [q] at h; cases h
        | some e => rw [q] at h; cases h
      · rw [List.getElem?_append_right (by rw [List.length_map]; omega), List.getElem?_replicate] at h
        split at h <;> cases h
    · cases q : m (ds.map .v ++ List.replicate (N.length - ds.length) .un) S with
      | no => rw [q] at p; exact p.elim
      | ex x L S1 => rw [q] at p; exact fun c d σ' H' g' f' e' xr => p c d H' g' f'.base f'.wf xr
      | ok fl L S1 =>
        rw [q] at p
        cases fl with
        | nx => exact fun σ' H' g' f' e' => p .non H' g' f'.base f'.wf rfl
        | rt d => exact fun σ' H' g' f' e' v rv => p v H' g' f'.base f'.wf rv
        | bk => exact p.elim
        | ct => exact p.elim
  · exact p.elim
abbrev WE (E : XK) : WX := fun c d _ H => E c d H
/-- a def's body keeps its promise -/
theorem fn_ofG {P : Program} {w : World} {K : PySem.W.Frag} {mg : Str → Option Value} {base : Heap} {x qual : Str} {params : Arguments} {body : List Stmt} {scope : Scope} {dvs : List V} {kws : List (Str × V)} {f : Addr} {fd : FuncData} {CX : CXT} {N ps : List Str} {k : Nat} {sp : Sp}
    (F : FunD K x qual params body scope dvs kws f fd) (S : FnScope N ps scope) (len : ∀ vs H Q E, sp vs H Q E → vs.length = ps.length)
    (hbody : ∀ (cdv : Value) (A : Around) (outer : List Env) (s : Shared) (H : Hp) (vs : List V) (Q : VK) (E : XK), RoomG k (A.deeper (PyProof.Rows.envOfC qual scope s.heap.objs.size f cdv)) → sp vs H Q E →
      ∃ t, PSs (cxOf CX P w K mg base N qual scope f cdv A outer s H E) body t ∧ t { nx := fun _ H' => Q .non H', rt := Q } (L2.start N vs) H) : FnOkG P w K mg base CX (k + 1) f fd ps sp := by
  obtain ⟨oc, od, dV, kV, doc, pm, an, cdv, ct, osl, rfl, lk, hcd, _, _⟩ := F.ex
  refine ⟨len, fun A outer s H args us vs Q E hr e0 hb r hsp => ?_⟩
  have KX : K.In s.heap := e0.mod.kin.keeps fun b o e => (e0.bs b o e).1
  refine codeAny_call_function hr.depth (KX _ _ lk) rfl S.co S.gen rfl (PySem.W.codeRec_of KX hcd) (hb _ _ _ _ (wpAny_newFunctionEnv_cells S.kind (fun y hy => ?_) fun env he s1 z => ?_))
  · exact (S.par y.1 (List.of_mem_zip (a := y.1) (b := y.2) hy).1).imp id fun q => ⟨q, PySem.W.cellsFrom_some _ _ _ (.inl q)⟩
  · subst he
    obtain ⟨t, ht, hq⟩ := hbody cdv A outer s H vs Q E (hr.deeper _) hsp
    refine ⟨(e0.mod.nolimit.keeps fun b o e => (e0.bs b o e).1).keeps z.toInCall.keep, codeAny_func (wpAny_mono (ht.run [] s1 _ H _ (inv_start S hr.hd e0 (len _ _ _ _ hsp) r z) hq) (fun fl s' hs => ?_) fun e s' hs => hs)⟩
    match fl, hs with
    | .ret u, ⟨v, _, H', J, rv, q⟩ => exact ⟨v, H', J.os, J.bare, J.base, J.hok, rv, q⟩
    | .next, ⟨_, H', J, q⟩ => exact ⟨.non, H', J.os, J.bare, J.base, J.hok, rfl, q⟩
    | .brk, ⟨_, _, _, q⟩ => exact q.elim
    | .cont, ⟨_, _, _, q⟩ => exact q.elim
theorem rf_fn {P : Program} {w : World} {K : PySem.W.Frag} {mg : Str → Option Value} {base : Heap} {x qual : Str} {params : Arguments} {body : List Stmt} {scope : Scope} {dvs : List V} {kws : List (Str × V)} {f : Addr} {fd : FuncData} {N ps : List Str} {n np j : Nat} {m : SM}
    (F : FunD K x qual params body scope dvs kws f fd) (S : FnScope N ps scope) (hn : N.length = n) (hp : ps.length = np)
    (hb : ∀ (cdv : Value) (A : Around) (outer : List Env) (s : Shared) (H : Hp) (E : XK), RoomG j (A.deeper (PyProof.Rows.envOfC qual scope s.heap.objs.size f cdv)) →
      Takes (cxOf (L2.CX P w) P w K mg base N qual scope f cdv A outer s H E) (WE E) → PassesOwn (model P w) (A.deeper (PyProof.Rows.envOfC qual scope s.heap.objs.size f cdv)) (PyProof.Rows.envOfC qual scope s.heap.objs.size f cdv) (cxOf (L2.CX P w) P w K mg base N qual scope f cdv A outer s H E).xe →
      SB (cxOf (L2.CX P w) P w K mg base N qual scope f cdv A outer s H E) (WE E) body m) : FnOkG P w K mg base (L2.CX P w) (j + 1) f fd ps (spC (k0 K mg w) (fnSem n np m)) :=
  fn_ofG F S (fun vs H Q E ⟨ds, S, g, r, w, p⟩ => by
      unfold fnSem at p
      split at p
      · rename_i hl
        rw [r.length, hl, hp]
      · exact p.elim)
    fun cdv A outer s H vs Q E hr h => ⟨_, hb cdv A outer s H E hr (takes_of (X := cxOf (L2.CX P w) P w K mg base N qual scope f cdv A outer s H E) rfl rfl rfl rfl) (passes_of (X := cxOf (L2.CX P w) P w K mg base N qual scope f cdv A outer s H E) rfl), fn_body hn (h.kc rfl rfl rfl)⟩
end Rf
set_option Elab.async false
set_option linter.all false
set_option maxRecDepth 100000
namespace Rf
open PySem L2 TL
section
variable {X : Cx} {W : WX} {st : Stmt} {e a b c o ix : Expr} {pos pos' : Pos} {m mi mo : EM} {i j l : Nat} {x y z : Str} {ma : Ls → Sto → R (List D)}
theorem ss_par2 {px py pt pt2 : Pos} {kt k2 : Nat} (hc : X.calm = true) (hN : X.N.Nodup) (hi : X.N[i]? = some x) (hj : X.N[j]? = some y) (hij : i ≠ j)
    (hx : X.env.scope.names.lookup x = some .local) (hy : X.env.scope.names.lookup y = some .local) (ha : SAE X W [a, b] ma)
    (hw : swappedStores [.Tuple [.Name x px, .Name y py] kt pt] (.Tuple [a, b] k2 pt2) X.env = pure (some [x, y])) :
    SS X W (.Assign [.Tuple [.Name x px, .Name y py] kt pt] (.Tuple [a, b] k2 pt2) pos) (sPar2 i j ma) :=
  PS.imp (ps_par hc hN hi hj hij hx hy ha hw) fun D σ H h => par_read2 h
theorem ss_appO {apos : Pos} (ho : SE X W o mo) (he : SE X W e m) (hs : noStar e = true) (hsup : notSuper o = true) (hl : (apos.endLine == pos.line) = true) :
    SS X W (.Expr (.Call (.Attribute o "append" apos) [e] [] pos) pos') (sAppO mo m) :=
  PS.imp (ps_expr (pe_app ho he hs hsup hl) rfl) fun D σ H ⟨L, S, g, B, gB, f, p⟩ =>
    ⟨L, S, g, f.loc, f.wf, st_e f p fun d S1 v H1 g1 f1 e1 r p1 => by
      cases d with
      | obj n =>
        obtain ⟨hn, rfl⟩ := r
        obtain ⟨ob, hob⟩ : ∃ ob, S1[n]? = some ob := ⟨_, List.getElem?_eq_getElem (by rw [f1.wf.len]; exact hn)⟩
        cases ob with
        | lst ds0 =>
          simp only [hob] at p1
          obtain ⟨us, hu, _⟩ := f1.wf.ob n _ hob
          refine ⟨.inl ⟨rfl, us, SqL.of hu⟩, L, S1, g1, f1.loc, f1.wf, st_e f1 p1 fun d2 S2 v2 H2 g2 f2 e2 r2 p2 => ?_⟩
          split at p2
          · rename_i ds q
            split at p2
            · rename_i hz
              obtain ⟨us2, hu2, ru2⟩ := f2.wf.ob n _ q
              obtain ⟨f3, pe⟩ := f2.obj q (ru2.append (.cons r2 .nil))
              refine ⟨_, us2, v2, rfl, rfl, ?_, by rw [ru2.length]; exact hz, ?_⟩
              · rw [← e2.ρ n hn]; exact hu2
              · rw [← e2.ρ n hn]; exact p2 σ _ g2 f3 pe
            · exact p2.elim
          · exact p2.elim
        | _ => simp only [hob] at p1; exact p1.elim
      | _ => exact p1.elim⟩
theorem ss_putO {ps : Pos} (ho : SE X W o mo) (hi : SE X W ix mi) (he : SE X W e m) (hn : notComp e = true)
    (ha : ∀ v, assign (.Subscript o ix ps) X.env v = (do
      let ov ← holding [v] (eval o X.env)
      let iv ← holding [v, ov] (eval ix X.env)
      standAt ps
      holding [v, ov, iv] (setItem ov iv v)
      release [v, ov, iv] [])) : SS X W (.Assign [.Subscript o ix ps] e pos) (sPutO mo mi m) :=
  PS.imp (ps_asg he (pg_sub ho hi set_list ha) (by unfold swapsWithSole; exact no_swap hn) rfl rfl) fun D σ H ⟨L, S, g, B, gB, f, p⟩ =>
    ⟨L, S, g, f.loc, f.wf, st_e f p fun d S1 v H1 g1 f1 e1 r p1 => ⟨L, S1, g1, f1.loc, f1.wf, st_e f1 p1 fun od S2 w H2 g2 f2 e2 r2 p2 => by
      split at p2
      · rename_i n
        obtain ⟨hn, rfl⟩ := r2
        refine ⟨L, S2, g2, f2.loc, f2.wf, st_e f2 p2 fun jd S3 u H3 g3 f3 e3 r3 p3 => ?_⟩
        split at p3
        · rename_i kk
          cases r3
          split at p3
          · rename_i ds q
            split at p3
            · rename_i jj hjj
              obtain ⟨us, hu, ru⟩ := f3.wf.ob n _ q
              obtain ⟨f4, pe⟩ := f3.obj q (ru.set jj (r.mono (e2.trans e3).toPExt _ _))
              refine ⟨_, us, kk, jj, rfl, rfl, ?_, by rw [ru.length]; exact hjj, ?_⟩
              · rw [← e3.ρ n hn]; exact hu
              · rw [← e3.ρ n hn]; exact p3 σ _ g3 f4 pe
            · exact p3.elim
          · exact p3.elim
        · exact p3.elim
      · exact p2.elim⟩⟩
theorem ss_aug {op : Operator} {oo : D → D → Option D} (hN : X.N.Nodup) (hi : X.N[i]? = some x) (hx : Loc X.env.scope x) (hf : X.fn x = true) (h : OpC X (inplaceOp op) oo) (he : SE X W e m) : SS X W (.AugAssign (.Name x pos') op e pos) (sAug i oo m) :=
  PS.imp (ps_aug hN hi hx he (OpR.ex h) (.inl hf)) fun D σ H ⟨L, S, g, B, gB, f, p⟩ => by
    unfold sAug at p
    split at p
    · rename_i xd q
      obtain ⟨xv, hxv, rx⟩ := f.loc.val i _ q
      refine ⟨xv, hxv, L, S, g, f.loc, f.wf, st_e f p fun yd S1 yv H1 g1 f1 e1 ry p1 => ?_⟩
      split at p1
      · rename_i zd hz
        have c1 : PkRep (kx X) σ L H1 g1 xd xv := .inl (rx.mono e1.toPExt _ _)
        have c2 : PkRep (kx X) σ L H1 g1 yd yv := .inl ry
        refine ⟨g1, S1, _, _, zd, f1.wf, c1.c f1.loc f1.wf, c2.c f1.loc f1.wf, hz, fun v H2 g2 e2 w2 rz => ?_⟩
        exact p1 _ H2 g2 ((f1.ext e2 w2).set rz) e2.toPExt
      · exact p1.elim
    · exact p.elim
end
def iAdd : D → D → Option D
  | .int a, .int b => some (.int (a + b))
  | .str a, .str b => if a.length + b.length ≤ sizeLine then some (.str (a ++ b)) else none
  | _, _ => none
section
variable {X : Cx}
theorem iAdd_ok : OpC X (inplaceOp .Add) iAdd := by
  rintro d e res h pins s σ H x y v u Q I rx ry ⟨g, S, w, c1, c2, q⟩
  unfold iAdd at h
  split at h
  · cases h; cases c1; cases c2
    exact iop_add pins s σ H _ _ v u Q I rx ry ⟨_, _, rfl, rfl, scalar_fin q w rfl⟩
  · split at h
    · rename_i hz
      cases h; cases c1; cases c2
      refine iop_add_str pins s σ H _ _ v u Q I rx ry ⟨_, _, rfl, rfl, by rw [mk_len, mk_len]; exact hz, ?_⟩
      rw [mk_app]
      exact scalar_fin q w rfl
    · cases h
  · cases h
end
end Rf
set_option Elab.async false
set_option linter.all false
set_option maxRecDepth 100000
namespace Rf
open PySem L2 TL
abbrev Tb := List (List Nat × D)
def Tb.get (t : Tb) (z : List Nat) : Option D := (t.find? fun q => q.1 == z).map (·.2)
section
variable {X : Cx} {W : WX} {x : Str} {e : Expr} {p pos : Pos} {t : Tb} {m : EM}
def eInT (neg : Bool) (t : Tb) (m : EM) : EM := fun L S => (m L S).bind fun d S1 => match d with
  | .str z => .ok (.bl (neg != (t.get z).isSome)) S1
  | _ => .no
def eIxT (t : Tb) (m : EM) : EM := fun L S => (m L S).bind fun d S1 => match d with
  | .str z => lift (t.get z) S1
  | _ => .no
end
end Rf
set_option Elab.async false
set_option linter.all false
set_option maxRecDepth 100000
namespace Rf
open PySem L2 TL
theorem takes_no {X : Cx} : Takes X WN := fun _ _ ⟨_, _, _, _, _, _, _, _, _, _, _, _, _, _, _, _, z⟩ => z.elim
theorem se_str {X : Cx} {W : WX} {x : Str} {j : Nat} {pos : Pos} {l : List Nat} (h : x = ⟨l.toArray⟩) : SE X W (.Constant (.str x) j pos) (eC (.str l)) := se_const pe_str fun _ _ => by rw [h] <;> rfl
theorem se_int {X : Cx} {W : WX} {x : Int} {j : Nat} {pos : Pos} : SE X W (.Constant (.int x) j pos) (eC (.int x)) := se_const pe_int fun _ _ => rfl
theorem se_bl {X : Cx} {W : WX} {x : Bool} {j : Nat} {pos : Pos} : SE X W (.Constant (.bool x) j pos) (eC (.bl x)) := se_const pe_bl fun _ _ => rfl
theorem se_non {X : Cx} {W : WX} {j : Nat} {pos : Pos} : SE X W (.Constant .none j pos) (eC .non) := se_const pe_non fun _ _ => rfl
theorem se_ty {X : Cx} {W : WX} {x : Str} {n : String} {pos : Pos} (hg : Gl X x) (hm : X.mg x = none) (hv : bootBuiltins x = some (.type n)) (hn : x ≠ "__name__") (hd : (x == ("__debug__" : Str)) = false) : SE X W (.Name x pos) (eC (.ty n)) :=
  se_const (pe_bltn hg hm hv (v := .ty n) rfl hn hd) fun _ _ => rfl
theorem ss_setS {X : Cx} {W : WX} {i : Nat} {x : Str} {e : Expr} {m : EM} {pos pos' : Pos} (hN : X.N.Nodup) (hi : X.N[i]? = some x) (hx : Loc X.env.scope x) (hf : X.fn x = true) (h : SE X W e m) (hs : swapsWith e (some (.Name x pos')) pos.line X.env = pure false) : SS X W (.Assign [.Name x pos'] e pos) (sSet i m) :=
  PS.imp (ps_set hN hi hx h hs (.inl hf)) fun D σ H q => set_read q
def sNo : SM := fun _ _ => .no
theorem sb_no {X : Cx} {W : WX} {sts : List Stmt} : SB X W sts sNo := PSs.imp pss_never fun D σ H ⟨_, _, _, _, _, _, p⟩ => p.elim
def FnIn (P : Program) (w : World) (K : PySem.W.Frag) (mg : Str → Option Value) (base : Heap) (x : Str) (j : Nat) (c : Fn) : Prop :=
  ∃ (f : Addr) (fd : FuncData) (ps : List Str), FnOkG P w K mg base (L2.CX P w) j f fd ps (spC (k0 K mg w) c) ∧ mg x = some (.ref f) ∧ PySem.W.keepIn K (.ref f) = true ∧ Binds K fd ps []
theorem FnIn.at {P : Program} {w : World} {K : PySem.W.Frag} {mg : Str → Option Value} {base : Heap} {x : Str} {i j : Nat} {c : Fn} {X : Cx} (h : FnIn P w K mg base x j c) (hr : RoomG i X.A) (hl : j ≤ i)
    (h1 : X.prog = P) (h2 : X.w = w) (h3 : X.K = K) (h4 : X.mg = mg) (h5 : X.base = base) : FnAt X x c := by
  subst h1 h2 h3 h4 h5
  obtain ⟨f, fd, ps, F, hm, hk, hb⟩ := h
  exact ⟨j, f, fd, ps, F, hr.mono hl, hm, hk, hb⟩
/-- where a def stands -/
def DefAt (K : PySem.W.Frag) (mg : Str → Option Value) (x : Str) (st : Stmt) : Prop := ∃ (f : Addr) (fd : FuncData), FunD K x x (defArgs st) (defBody st) (defScope st) [] [] f fd ∧ mg x = some (.ref f)
theorem def_at {fa : List He.Fa} {fn : List He.DefD} {K : PySem.W.Frag} {h : Heap} {mg : Str → Option Value} (X : K.In h) (G : h.Ns mainGlobals mg) (c : He.SaysD fa fn K) {x : Str} {st : Stmt}
    (h1 : (⟨(x, none), x, x, defArgs st, defBody st, defScope st, [], []⟩ : He.DefD) ∈ fn) (h2 : He.Fa.glo x ∈ fa) : DefAt K mg x st := by
  obtain ⟨fd, F⟩ := c.defs h1
  exact ⟨_, fd, F, He.glo_ok X G (c.facts h2)⟩
theorem free_at {fa : List He.Fa} {fn : List He.DefD} {K : PySem.W.Frag} {h : Heap} {mg : Str → Option Value} (X : K.In h) (G : h.Ns mainGlobals mg) (c : He.SaysD fa fn K) {x : Str} (h2 : He.Fa.free x ∈ fa) : mg x = none := He.free_ok X G (c.facts h2)
theorem law_end {k : Kx} {c : Fn} {ns : List Int} (h : ∃ S, c [.scr ns] [] = .ok (.bl true) S) {H : Hp} {a : Addr} (hl : Only H) (hs : SqL k.K H a (ns.map V.int)) : spC k c [.ref a] H (fun v _ => v = .bl true) (fun _ _ _ => False) := by
  obtain ⟨S, e⟩ := h
  refine ⟨[.scr ns], [], ⟨fun _ => False, fun _ => 0, 0⟩, ⟨_, [], rfl, ⟨a, rfl, ?_⟩, rfl⟩, ⟨rfl, fun i o h => by simp at h, fun i j h => absurd h (Nat.not_lt_zero _), fun i h => absurd h (Nat.not_lt_zero _), fun a h => h.elim⟩, ?_⟩
  · rcases hs with hs | hs
    · rcases hs with hs | ⟨o, hs⟩
      · rcases hl a with z | ⟨o, xs, z⟩
        · rw [hs] at z; cases z
        · rw [hs] at z; cases z
      · exact .inl ⟨o, hs⟩
    · exact .inr hs
  · rw [e]
    exact fun v H' g' e w r => r
theorem no_cx {P : Program} {w : World} (H : Hp) (s : Shared) (e : Value) (s' : Shared) (h : L2.CX P w [] H s (fun _ _ _ => False) e s') : False := by
  obtain ⟨_, _, _, _, _, _, _, _, _, _, _, _, h⟩ := h
  exact h
open PySem.Spec PyProof.Rows in
/-- the law is called: from the promise to the end -/
theorem law_callG {P : Program} {w : World} {K : PySem.W.Frag} {mg mb : Str → Option Value} {CX : CXT} {k : Nat} {fa a : Addr} {fd : FuncData} {x : Str} {sp : Sp} {s : Shared} {vs : List Value} {ns : List Int}
    (KX : K.In s.heap) (hns : s.heap.Ns mainGlobals mg) (hb : s.heap.Ns builtinsNs mb) (hbb : ∀ x : Str, x ≠ "__name__" → mb x = bootBuiltins x) (hlim : s.heap.NoLimit) (hg : s.gens = #[])
    (ha : s.heap.get? a = some { cls := .type "list", data := .seq vs.toArray }) (hi : IntsAre vs ns) (hl : ns.length ≤ sizeLine) (hr : RoomG k callerA)
    (F : ∀ base : Heap, K.In base → base.Ns mainGlobals mg → FnOkG P w K mg base CX k fa fd [x] sp) (hbind : ∀ (s : Shared) (u : Value), BindsTo s fd ⟨[u], []⟩ [(x, u)])
    (hsp : ∀ H : Hp, Only H → SqL K H a (ns.map V.int) → sp [.ref a] H (fun v _ => v = .bl true) fun _ _ _ => False) (hCX : ∀ H e s', CX [] H s (fun _ _ _ => False) e s' → False) :
    codeAny (model P w) callerA (.call (.ref fa) ⟨[.ref a], []⟩) (fun r s' => r = .ok (.ret (.bool true)) ∧ OldK s.heap s'.heap ∧ s'.os = s.os ∧ AllBare s'.gens) s := by
  have rv := vals_ints hi
  have go : ∀ H : Hp, Only H → SqL K H a (ns.map V.int) → HOk P w H s.heap → (∀ b, H b ≠ none → b = a ∧ K.lookup a = none) →
      codeAny (model P w) callerA (.call (.ref fa) ⟨[.ref a], []⟩) (fun r s' => r = .ok (.ret (.bool true)) ∧ OldK s.heap s'.heap ∧ s'.os = s.os ∧ AllBare s'.gens) s := by
    intro H hO hS hok hA
    -- what is no list is not tracked
    have free : ∀ {b : Addr} {o : Obj}, s.heap.get? b = some o → (∀ xs n, o.data ≠ .seq xs n) → H b = none := fun {b o} e d => Classical.byContradiction fun q => by
      rw [(hA b q).1, ha] at e
      cases e
      exact d _ _ rfl
    have ns : ∀ {b : Addr} {m : Str → Option Value}, s.heap.Ns b m → (hidT s.heap H).Ns b m := fun ⟨o, es, ep, e, d, r⟩ => ⟨o, es, ep, hidT_get e (free e fun _ _ z => by rw [d] at z; cases z), d, r⟩
    have kin : K.In (hidT s.heap H) := fun b o e => hidT_get (KX b o e) (Classical.byContradiction fun q => by
      obtain ⟨q1, q2⟩ := hA b q
      rw [q1, q2] at e; cases e)
    have mod : Mod K mg (hidT s.heap H) := ⟨kin, ns hns, ⟨mb, ns hb, hbb⟩, hlim.elim fun mc h => ⟨mc, ns h.1, h.2⟩⟩
    refine codeAny_mono ((F _ kin (ns hns)).run callerA [] s H ⟨[.ref a], []⟩ [.ref a] [.ref a] _ _ hr ⟨rfl, mod, fun b o e => of_hidT e, Nat.le_of_eq (hidT_size _ _), trivial, (fun b hb => absurd (show b ∈ ([] : List Addr) from hb) (by simp)), hok, .of_eq hg⟩ (hbind s (.ref a)) (.cons rfl .nil) (hsp H hO hS)) fun r s' h => ?_
    match r, h with
    | .error e, h => exact (hCX H e s' h).elim
    | .ok (.ret u), ⟨v, H', os, bare, un, hok', r', q⟩ =>
      cases (show v = .bl true from q)
      cases (show u = Value.bool true from r')
      refine ⟨rfl, OldK.of_keep fun b o e => ?_, os, bare⟩
      rcases hO b with z | ⟨ob, xs, z⟩
      · exact un.keep b o e z (fun y => absurd (show b ∈ ([] : List Addr) from y) (by simp)) (by simp)
      · have e1 := (hok b _ z).1
        rw [e] at e1
        cases e1
        exact (hok' b _ (un.frzs b _ _ z)).1
  cases hk : K.lookup a with
  | some o =>
    have e := KX a o hk
    rw [ha] at e
    cases e
    exact go (fun _ => none) (fun _ => .inl rfl) (.inr ⟨_, vs.toArray, _, hk, rfl, rfl, rfl, by rw [List.size_toArray, hi.length]; exact hl, by simpa using rv⟩) (fun b u z => by cases (show (none : Option HO) = some u from z)) fun b z => absurd rfl z
  | none =>
    refine go (upd (fun _ => none) a (.frz { cls := .type "list", data := .seq vs.toArray } (.lst (ns.map V.int)))) (fun b => ?_) (.inl (.inr ⟨_, upd_same⟩)) (fun b u z => ?_) fun b z => ⟨Classical.byContradiction fun q => z (by rw [upd_ne q]), hk⟩
    · by_cases q : b = a
      · subst q; exact .inr ⟨_, _, upd_same⟩
      · exact .inl (by rw [upd_ne q])
    · by_cases q : b = a
      · subst q
        rw [upd_same] at z
        cases z
        exact ⟨ha, by rw [List.length_map]; exact hl, vs, _, rv, ha⟩
      · rw [upd_ne q] at z; cases z
theorem rf_walk {l : PySem.W.OpenLaw} {n k : Nat} {q : Program} {loose : List Str} {XP : (Str → Option Value) → Heap → Prop} {YP : World → Heap → Prop} {d : DefRec} {x : Str} {c : Fn}
    (h1 : l.most = some n) (h2 : n ≤ sizeLine) (h3 : d.params.defaults = []) (h4 : RoomG k callerA)
    (h5 : ∀ (w : World) (mg : Str → Option Value) (f : Addr) (h : Heap), YP w h → h.Ns mainGlobals mg → mg d.name = some (.ref f) → ∃ (K : PySem.W.Frag) (fd : FuncData), K.In h ∧ (∀ (s : Shared) (u : Value), BindsTo s fd ⟨[u], []⟩ [(x, u)]) ∧
      ∀ base : Heap, FnOkG l.prog w K mg base (L2.CX l.prog w) k f fd [x] (spC (k0 K mg w) c))
    (law : ∀ ns : List Int, ns.length ≤ n → ∃ S, c [.scr ns] [] = .ok (.bl true) S) : PySem.W.WalkO q loose XP YP l.row.toRowW d [] (fun f vs => PySem.call f vs) := by
  refine Att.attach_call h1 h3 fun w _ s₁ mg _ f _ _ _ _ a vs ns G Y _ _ _ hmg hob hin hle hge => ?_
  obtain ⟨K, fd, KX, hb, hF⟩ := h5 w mg f _ Y G.T.g hmg
  exact law_callG (sp := spC (k0 K mg w) c) KX G.T.g G.T.b G.T.builtins G.T.nolimit hge hob hin (Nat.le_trans hle h2) h4 (fun base _ _ => hF base) hb
    (fun H hO hS => law_end (k := k0 K mg w) (law ns hle) hO hS) fun H e s' => no_cx H s₁ e s'
end Rf
set_option Elab.async false
set_option linter.all false
set_option maxRecDepth 100000
set_option maxHeartbeats 0
namespace Rf
open PySem L2 TL
/-- what is wanted where an exception leaves -/
class ExP where
  E : Exn → Sto → Prop
@[reducible] instance (priority := 10) noXP : ExP := ⟨fun _ _ => False⟩
def wpP [xp : ExP] {α : Type} (r : R α) (P : α → Sto → Prop) : Prop := match r with
  | .ok a S => P a S
  | .ex x S => xp.E x S
  | .no => False
def wpsP [xp : ExP] (r : RS) (P : Fl → Ls → Sto → Prop) : Prop := match r with
  | .ok f L S => P f L S
  | .ex x _ S => xp.E x S
  | .no => False
/-- a structure, lest tactics look into it -/
structure WP (xp : ExP) {α : Type} (r : R α) (P : α → Sto → Prop) : Prop where
  out : wpP r P
abbrev wp [xp : ExP] {α : Type} (r : R α) (P : α → Sto → Prop) : Prop := WP xp r P
structure WPS (xp : ExP) (r : RS) (P : Fl → Ls → Sto → Prop) : Prop where
  out : wpsP r P
abbrev wps [xp : ExP] (r : RS) (P : Fl → Ls → Sto → Prop) : Prop := WPS xp r P
variable {xp : ExP}
theorem wp_eq {α : Type} {r : R α} {P : α → Sto → Prop} : wp r P = wpP r P := propext ⟨fun h => h.out, fun h => ⟨h⟩⟩
theorem wps_eq {r : RS} {P : Fl → Ls → Sto → Prop} : wps r P = wpsP r P := propext ⟨fun h => h.out, fun h => ⟨h⟩⟩
section
variable {α β : Type} {r : R α} {P Q : α → Sto → Prop} {S : Sto} {L : Ls}
theorem wp_bind {f : α → Sto → R β} {P : β → Sto → Prop} : wp (r.bind f) P = wp r fun a S => wp (f a S) P := by
  rw [wp_eq, wp_eq]
  cases r with
  | ok a S => exact wp_eq.symm
  | _ => rfl
theorem wps_st {f : α → Sto → RS} {P : Fl → Ls → Sto → Prop} : wps (r.st L f) P = wp r fun a S => wps (f a S) P := by
  rw [wps_eq, wp_eq]
  cases r with
  | ok a S => exact wps_eq.symm
  | _ => rfl
theorem wps_seq {r : RS} {f : Ls → Sto → RS} {P : Fl → Ls → Sto → Prop} : wps (r.seq f) P = wps r fun fl L S => match fl with
    | .nx => wps (f L S) P
    | fl => P fl L S := by
  rw [wps_eq, wps_eq]
  cases r with
  | ok fl L S =>
    cases fl with
    | nx => exact wps_eq.symm
    | _ => rfl
  | _ => rfl
theorem wp.mono (h : wp r P) (i : ∀ a S, P a S → Q a S) : wp r Q := by cases r with | ok a S => exact ⟨i a S h.out⟩ | ex x S => exact ⟨h.out⟩ | no => exact h.out.elim
theorem wp.ex (h : @wp noXP α r P) : ∃ a S, r = .ok a S ∧ P a S := by cases r with | ok a S => exact ⟨a, S, rfl, h.out⟩ | _ => exact h.out.elim
theorem wp.of {a : α} (e : r = .ok a S) (h : P a S) : wp r P := by rw [e]; exact ⟨h⟩
theorem wps.mono {r : RS} {P Q : Fl → Ls → Sto → Prop} (h : wps r P) (i : ∀ a L S, P a L S → Q a L S) : wps r Q := by cases r with | ok a L S => exact ⟨i a L S h.out⟩ | ex x L S => exact ⟨h.out⟩ | no => exact h.out.elim
/-- where no exception leaves, any wish will do -/
theorem wp.up (h : @wp noXP α r P) : wp r P := by cases r with | ok a S => exact ⟨h.out⟩ | ex x S => exact h.out.elim | no => exact h.out.elim
theorem wps.up {r : RS} {P : Fl → Ls → Sto → Prop} (h : @wps noXP r P) : wps r P := by cases r with | ok a L S => exact ⟨h.out⟩ | ex x L S => exact h.out.elim | no => exact h.out.elim
theorem wp_end {r : RS} {P : D → Sto → Prop} (h : wps r fun fl _ S => match fl with
    | .nx => P .non S
    | .rt d => P d S
    | _ => False) : wp (endR r) P := by
  cases r with
  | ok fl L S => cases fl <;> exact ⟨h.out⟩
  | ex x L S => exact ⟨h.out⟩
  | no => exact h.out.elim
end
/-- the law's deck at the store's first two places, n draws to come -/
def Deck (T : Sto) (n : Nat) (S : Sto) : Prop := ∃ (cs : List Int) (c : Int), S = .lst (cs.map .int) :: .lst [.obj 0, .int c] :: T ∧ (∀ x ∈ cs, 0 ≤ x) ∧ 0 ≤ c ∧ c + n ≤ 2 ^ 40 ∧ cs.length ≤ 63
theorem Deck.le {T S : Sto} {n m : Nat} (h : Deck T n S) (e : m ≤ n) : Deck T m S := by
  obtain ⟨cs, c, h1, h2, h3, h4, h5⟩ := h
  exact ⟨cs, c, h1, h2, h3, by omega, h5⟩
noncomputable def m_deck : SM := sSeq (sRet (eNw (fLst (aCons (eNw (fLc (iVal (eSl (pVar 0) (oNo) (oSo (eC (.int 63))))) [1] (.nm 1) (tYs) (eCall bAbs (aCons (pVar 1) (aNil))))) (aCons (eC (.int 0)) (aNil)))))) (sNil)
theorem wp_lc {all : List D} {t : Tg} {tt : Ls → Sto → R Bool} {te : EM} {Lw : Ls} {P : List D → Sto → Prop} (I : List D → Sto → List D → Prop)
    (step : ∀ d ds S acc, I (d :: ds) S acc → ∃ L1, tgA t d Lw = some L1 ∧ @wp noXP _ (tt L1 S) fun b S1 => if b = true then @wp noXP _ (te L1 S1) fun y S2 => acc.length < sizeLine ∧ I ds S2 (acc ++ [y]) else I ds S1 acc)
    (done : ∀ S acc, I [] S acc → P acc S) : ∀ (ds : List D) (S : Sto) (acc : List D), I ds S acc → wp (lcLoop none all t tt te Lw ds S acc) P
  | [], S, acc, h => ⟨done S acc h⟩
  | d :: ds, S, acc, h => by
    obtain ⟨L1, e, h⟩ := step d ds S acc h
    rw [lcLoop, ckd, e]
    dsimp only
    cases q : tt L1 S with
    | no => rw [q] at h; exact h.out.elim
    | ex x S1 => rw [q] at h; exact h.out.elim
    | ok b S1 =>
      rw [q] at h
      have h' : if b = true then @wp noXP _ (te L1 S1) (fun y S2 => acc.length < sizeLine ∧ I ds S2 (acc ++ [y])) else I ds S1 acc := h.out
      dsimp only [R.nox, R.bind]
      by_cases hb : b = true
      · rw [if_pos hb] at h' ⊢
        cases q2 : te L1 S1 with
        | no => rw [q2] at h'; exact h'.out.elim
        | ex x S2 => rw [q2] at h'; exact h'.out.elim
        | ok y S2 =>
          rw [q2] at h'
          obtain ⟨hz, h'⟩ := h'.out
          dsimp only
          rw [if_pos hz]
          exact wp_lc I step done ds S2 _ h'
      · rw [if_neg hb] at h' ⊢
        exact wp_lc I step done ds S1 acc h'
theorem lc_map {all : List D} {t : Tg} {tt : Ls → Sto → R Bool} {te : EM} {Lw : Ls} {S : Sto} (f : D → D) : ∀ (ds acc : List D), (∀ d ∈ ds, ∃ L1, tgA t d Lw = some L1 ∧ tt L1 S = .ok true S ∧ te L1 S = .ok (f d) S) → acc.length + ds.length ≤ sizeLine →
    lcLoop none all t tt te Lw ds S acc = .ok (acc ++ ds.map f) S
  | [], acc, _, _ => by rw [lcLoop, ckd, List.map_nil, List.append_nil]
  | d :: ds, acc, h, hz => by
    obtain ⟨L1, e1, e2, e3⟩ := h d List.mem_cons_self
    rw [List.length_cons] at hz
    rw [lcLoop, ckd, e1]
    dsimp only
    rw [e2]
    dsimp only [R.nox, R.bind]
    rw [if_pos rfl, e3]
    dsimp only
    rw [if_pos (by omega), lc_map f ds (acc ++ [f d]) (fun x hx => h x (List.mem_cons_of_mem _ hx)) (by rw [List.length_append, List.length_singleton]; omega), List.map_cons, List.append_assoc, List.singleton_append]
theorem wps_for {all : List D} {t : Tg} {b : SM} {P : Fl → Ls → Sto → Prop} (I : List D → Ls → Sto → Prop)
    (step : ∀ d ds L S, I (d :: ds) L S → ∃ L1, tgA t d L = some L1 ∧ wps (b L1 S) fun fl L2 S2 => match fl with
      | .nx => I ds L2 S2
      | .ct => I ds L2 S2
      | .bk => P .nx L2 S2
      | fl => P fl L2 S2)
    (done : ∀ L S, I [] L S → P .nx L S) : ∀ (ds : List D) (L : Ls) (S : Sto), I ds L S → wps (forL none all t b ds L S) P
  | [], L, S, h => ⟨done L S h⟩
  | d :: ds, L, S, h => by
    obtain ⟨L1, e, h⟩ := step d ds L S h
    rw [forL, ckS, e]
    dsimp only
    cases q : b L1 S with
    | no => rw [q] at h; exact h.out.elim
    | ex x L2 S2 => rw [q] at h; exact ⟨h.out⟩
    | ok fl L2 S2 =>
      rw [q] at h
      cases fl with
      | nx => exact wps_for I step done ds L2 S2 h.out
      | ct => exact wps_for I step done ds L2 S2 h.out
      | bk => exact ⟨h.out⟩
      | rt d => exact ⟨h.out⟩
noncomputable def c_deck : Fn := fnSem 2 1 m_deck
theorem deck_new {ns : List Int} (h : ns.length ≤ 63) {n : Nat} (hn : n ≤ 2 ^ 40) : ∃ S, c_deck [.scr ns] [] = .ok (.obj 1) S ∧ Deck [] n S := by
  have e : cutD (ns.map D.int) none (some 63) = ns.map .int := by
    unfold cutD
    have h1 : HT.sIx (ns.map D.int).length 0 none = 0 := rfl
    have h2 : HT.sIx (ns.map D.int).length (ns.map D.int).length (some 63) = (ns.map D.int).length := by
      rw [List.length_map]
      unfold HT.sIx
      simp
      omega
    rw [h1, h2, List.drop_zero, Nat.sub_zero, List.take_length]
  refine ⟨[.lst ((ns.map fun i => if i < 0 then -i else i).map .int), .lst [.obj 0, .int 0]], ?_, ⟨_, 0, rfl, fun x hx => ?_, Int.le_refl _, by omega, by rw [List.length_map]; exact h⟩⟩
  · have key : lcLoop none (ns.map D.int) (.nm 1) tYs (eCall bAbs (aCons (pVar 1) aNil)) [.v (.scr ns), .un] (ns.map .int) [] [] = .ok ((ns.map fun i => if i < 0 then -i else i).map .int) [] := by
      rw [lc_map (fun d => match d with | .int i => .int (if i < 0 then -i else i) | d => d) (ns.map .int) [] ?_ ?_]
      · rw [List.nil_append, List.map_map, List.map_map]
        rfl
      · intro d hd
        obtain ⟨i, _, rfl⟩ := List.mem_map.mp hd
        exact ⟨_, rfl, rfl, rfl⟩
      · rw [List.length_map, List.length_nil]
        have : (63 : Nat) ≤ sizeLine := by decide
        omega
    have k1 : fLc (iVal (eSl (pVar 0) oNo (oSo (eC (.int 63))))) [1] (.nm 1) tYs (eCall bAbs (aCons (pVar 1) aNil)) [.v (.scr ns), .un] [] = .ok ((ns.map fun i => if i < 0 then -i else i).map .int) [] := by
      show lcLoop none (cutD (ns.map D.int) none (some 63)) (.nm 1) tYs (eCall bAbs (aCons (pVar 1) aNil)) [.v (.scr ns), .un] (cutD (ns.map D.int) none (some 63)) [] [] = _
      rw [e]
      exact key
    have k2 : ∀ (x : Ls → Sto → R (List D)) (L : Ls) (l : List D), x L [] = .ok l [] → endR (sSeq (sRet (eNw (fLst (aCons (eNw x) (aCons (eC (.int 0)) aNil))))) sNil L []) = .ok (.obj 1) [.lst l, .lst [.obj 0, .int 0]] := by
      intro x L l hx
      simp only [sSeq, sRet, eNw, fLst, aCons, hx, aNil, eC]
      rfl
    exact k2 _ _ _ k1
  · obtain ⟨i, _, rfl⟩ := List.mem_map.mp hx
    show 0 ≤ if i < 0 then -i else i
    split <;> omega
section
variable {P : D → Sto → Prop} {PL : List D → Sto → Prop} {PB : Bool → Sto → Prop} {PO : Option Int → Sto → Prop} {PS : Fl → Ls → Sto → Prop} {PR : Src → Sto → Prop} {L : Ls} {S : Sto} {i j l : Nat} {d : D} {ds : List D} {a b c m : EM} {ma mr : Ls → Sto → R (List D)} {ta tb : Ls → Sto → R Bool} {sa sb : SM}
theorem r_lift {α : Type} {o : Option α} {Q : α → Sto → Prop} (h : ∃ z, o = some z ∧ Q z S) : wp (lift o S) Q := by obtain ⟨z, rfl, h⟩ := h; exact ⟨h⟩
theorem r_eVar (h : L[i]? = some (.v d)) (k : P d S) : wp (eVar i L S) P := by unfold eVar; rw [h]; exact ⟨k⟩
theorem r_pVar (h : L[i]? = some (.v d)) (k : P d S) : wp (pVar i L S) P := by unfold pVar; rw [h]; exact ⟨k⟩
theorem r_pOwn (h : L[i]? = some (.o (.lst ds))) (k : P (.lst ds) S) : wp (pVar i L S) P := by unfold pVar; rw [h]; exact ⟨k⟩
theorem r_ok (k : P d S) : wp (.ok d S) P := ⟨k⟩
theorem r_okL (k : PL ds S) : wp (.ok ds S) PL := ⟨k⟩
theorem r_eC (k : P d S) : wp (eC d L S) P := ⟨k⟩
theorem r_eBin {o : D → D → Option D} (h : wp (a L S) fun x S1 => wp (b L S1) fun y S2 => ∃ z, o (deref S2 x) (deref S2 y) = some z ∧ P z S2) : wp (eBin o a b L S) P := by
  unfold eBin; rw [wp_bind]; refine h.mono fun x S1 h => ?_; rw [wp_bind]; exact h.mono fun y S2 h => r_lift h
theorem r_eCh {o o' : D → D → Option D} (h : wp (a L S) fun x S1 => wp (b L S1) fun y S2 => ∃ t, o (deref S2 x) (deref S2 y) = some (.bl t) ∧ (t = true → wp (c L S2) fun z S3 => ∃ w, o' (deref S3 y) (deref S3 z) = some w ∧ P w S3) ∧ (t = false → P (.bl false) S2)) : wp (eCh o o' a b c L S) P := by
  unfold eCh; rw [wp_bind]; refine h.mono fun x S1 h => ?_; rw [wp_bind]; refine h.mono fun y S2 ⟨t, e, h1, h2⟩ => ?_
  rw [e]
  cases t with
  | true => show wp (R.bind _ _) P; rw [wp_bind]; exact (h1 rfl).mono fun z S3 h => r_lift h
  | false => first | exact h2 rfl | exact ⟨h2 rfl⟩ | exact (h2 rfl).mono fun _ _ k => ⟨k⟩
theorem r_eAn (h : wp (a L S) fun d S1 => ∃ t, d = .bl t ∧ (t = true → wp (b L S1) P) ∧ (t = false → P (.bl false) S1)) : wp (eAn a b L S) P := by
  unfold eAn; rw [wp_bind]; refine h.mono fun d S1 ⟨t, e, h1, h2⟩ => ?_
  subst e; cases t with
  | true => first | exact h1 rfl | exact ⟨h1 rfl⟩ | exact (h1 rfl).mono fun _ _ k => ⟨k⟩
  | false => first | exact h2 rfl | exact ⟨h2 rfl⟩ | exact (h2 rfl).mono fun _ _ k => ⟨k⟩
theorem r_eOo (h : wp (a L S) fun d S1 => ∃ t, d = .bl t ∧ (t = true → P (.bl true) S1) ∧ (t = false → wp (b L S1) P)) : wp (eOo a b L S) P := by
  unfold eOo; rw [wp_bind]; refine h.mono fun d S1 ⟨t, e, h1, h2⟩ => ?_
  subst e; cases t with
  | true => first | exact h1 rfl | exact ⟨h1 rfl⟩ | exact (h1 rfl).mono fun _ _ k => ⟨k⟩
  | false => first | exact h2 rfl | exact ⟨h2 rfl⟩ | exact (h2 rfl).mono fun _ _ k => ⟨k⟩
theorem r_eNt (h : wp (a L S) fun d S1 => ∃ t, d = .bl t ∧ P (.bl (!t)) S1) : wp (eNt a L S) P := by
  unfold eNt; rw [wp_bind]; refine h.mono fun d S1 ⟨t, e, h1⟩ => ?_
  subst e; first | exact h1 | exact ⟨h1⟩ | exact (h1).mono fun _ _ k => ⟨k⟩
theorem r_eIf (h : wp (ta L S) fun t S1 => (t = true → wp (a L S1) P) ∧ (t = false → wp (b L S1) P)) : wp (eIf ta a b L S) P := by
  unfold eIf; rw [wp_bind]; refine h.mono fun t S1 ⟨h1, h2⟩ => ?_
  cases t with
  | true => first | exact h1 rfl | exact ⟨h1 rfl⟩ | exact (h1 rfl).mono fun _ _ k => ⟨k⟩
  | false => first | exact h2 rfl | exact ⟨h2 rfl⟩ | exact (h2 rfl).mono fun _ _ k => ⟨k⟩
theorem r_eNeg (h : wp (a L S) fun d S1 => ∃ n, d = .int n ∧ P (.int (-n)) S1) : wp (eNeg a L S) P := by
  unfold eNeg; rw [wp_bind]; refine h.mono fun d S1 ⟨t, e, h1⟩ => ?_
  subst e; first | exact h1 | exact ⟨h1⟩ | exact (h1).mono fun _ _ k => ⟨k⟩
theorem r_aNil (k : PL [] S) : wp (aNil L S) PL := ⟨k⟩
theorem r_aCons (h : wp (m L S) fun d S1 => wp (mr L S1) fun ds S2 => PL (d :: ds) S2) : wp (aCons m mr L S) PL := by
  unfold aCons; rw [wp_bind]; refine h.mono fun x S1 h => ?_; rw [wp_bind]; first | exact h | exact ⟨h⟩ | exact (h).mono fun _ _ k => ⟨k⟩
theorem r_eTup (h : wp (ma L S) fun ds S1 => ds.length ≤ sizeLine ∧ P (.tup ds) S1) : wp (eTup ma L S) P := by
  unfold eTup; rw [wp_bind]; refine h.mono fun x S1 ⟨h1, h2⟩ => ?_; rw [if_pos h1]; first | exact h2 | exact ⟨h2⟩ | exact (h2).mono fun _ _ k => ⟨k⟩
theorem r_fLst (h : wp (ma L S) fun ds S1 => ds.length ≤ sizeLine ∧ PL ds S1) : wp (fLst ma L S) PL := by
  unfold fLst; rw [wp_bind]; refine h.mono fun x S1 ⟨h1, h2⟩ => ?_; rw [if_pos h1]; first | exact h2 | exact ⟨h2⟩ | exact (h2).mono fun _ _ k => ⟨k⟩
theorem r_eFz (h : wp (ma L S) fun ds S1 => P (.lst ds) S1) : wp (eFz ma L S) P := by
  unfold eFz; rw [wp_bind]; first | exact h | exact ⟨h⟩ | exact (h).mono fun _ _ k => ⟨k⟩
theorem r_eNw (h : wp (ma L S) fun ds S1 => P (.obj S1.length) (S1 ++ [.lst ds])) : wp (eNw ma L S) P := by
  unfold eNw; rw [wp_bind]; first | exact h | exact ⟨h⟩ | exact (h).mono fun _ _ k => ⟨k⟩
theorem r_eCall {o : List D → Option D} (h : wp (ma L S) fun ds S1 => ∃ z, o (ds.map (deref S1)) = some z ∧ P z S1) : wp (eCall o ma L S) P := by
  unfold eCall; rw [wp_bind]; exact h.mono fun ds S1 h => r_lift h
theorem r_fCall {o : List D → Option (List D)} (h : wp (ma L S) fun ds S1 => ∃ z, o (ds.map (deref S1)) = some z ∧ PL z S1) : wp (fCall o ma L S) PL := by
  unfold fCall; rw [wp_bind]; exact h.mono fun ds S1 h => r_lift h
theorem r_eFn {f : Fn} (h : wp (ma L S) fun ds S1 => wp (f ds S1) P) : wp (eFn f ma L S) P := by
  unfold eFn; rw [wp_bind]; first | exact h | exact ⟨h⟩ | exact (h).mono fun _ _ k => ⟨k⟩
theorem r_eM1 {o : List Nat → D → Option D} (h : wp (a L S) fun d S1 => ∃ x, d = .str x ∧ wp (b L S1) fun e S2 => ∃ z, o x (deref S2 e) = some z ∧ P z S2) : wp (eM1 o a b L S) P := by
  unfold eM1; rw [wp_bind]; refine h.mono fun d S1 ⟨t, e, h1⟩ => ?_
  subst e; dsimp only; rw [wp_bind]; exact h1.mono fun _ _ h => r_lift h
theorem r_eM0 {o : D → Option D} (h : wp (a L S) fun d S1 => ∃ z, o d = some z ∧ P z S1) : wp (eM0 o a L S) P := by
  unfold eM0; rw [wp_bind]; exact h.mono fun _ _ h => r_lift h
theorem r_oNo (k : PO none S) : wp (oNo L S) PO := ⟨k⟩
def optO : D → Option (Option Int)
  | .int i => some (some i)
  | .non => some none
  | _ => none
theorem r_oSo (h : wp (m L S) fun d S1 => ∃ o, optO d = some o ∧ PO o S1) : wp (oSo m L S) PO := by
  unfold oSo; rw [wp_bind]; refine h.mono fun d S1 ⟨t, e, h1⟩ => ?_
  unfold optO at e
  split at e <;> cases e <;> exact ⟨h1⟩
theorem r_eSl {ml mh : Ls → Sto → R (Option Int)} (h : wp (a L S) fun d S1 => wp (ml L S1) fun lo S2 => wp (mh L S2) fun hi S3 => ∃ z, oSl (deref S3 d) lo hi = some z ∧ P z S3) : wp (eSl a ml mh L S) P := by
  unfold eSl; rw [wp_bind]; refine h.mono fun x S1 h => ?_; rw [wp_bind]; refine h.mono fun y S2 h => ?_; rw [wp_bind]; exact h.mono fun _ _ h => r_lift h
theorem r_eInT {ng : Bool} {t : Tb} (h : wp (m L S) fun d S1 => ∃ z, d = .str z ∧ P (.bl (ng != (t.get z).isSome)) S1) : wp (eInT ng t m L S) P := by
  unfold eInT; rw [wp_bind]; refine h.mono fun d S1 ⟨t, e, h1⟩ => ?_
  subst e; first | exact h1 | exact ⟨h1⟩ | exact (h1).mono fun _ _ k => ⟨k⟩
theorem r_eIxT {t : Tb} (h : wp (m L S) fun d S1 => ∃ z, d = .str z ∧ ∃ r, t.get z = some r ∧ P r S1) : wp (eIxT t m L S) P := by
  unfold eIxT; rw [wp_bind]; refine h.mono fun d S1 ⟨t, e, h1⟩ => ?_
  subst e; exact r_lift h1
theorem r_tOfE (h : wp (m L S) fun d S1 => ∃ t, d = .bl t ∧ PB t S1) : wp (tOfE m L S) PB := by
  unfold tOfE; rw [wp_bind]; refine h.mono fun d S1 ⟨t, e, h1⟩ => ?_
  subst e; first | exact h1 | exact ⟨h1⟩ | exact (h1).mono fun _ _ k => ⟨k⟩
theorem r_tTr (h : wp (m L S) fun d S1 => ∃ t, truth (deref S1 d) = some t ∧ PB t S1) : wp (tTr m L S) PB := by
  unfold tTr; rw [wp_bind]; exact h.mono fun _ _ h => r_lift h
theorem r_tNt (h : wp (ta L S) fun t S1 => PB (!t) S1) : wp (tNt ta L S) PB := by
  unfold tNt; rw [wp_bind]; first | exact h | exact ⟨h⟩ | exact (h).mono fun _ _ k => ⟨k⟩
theorem r_tAn (h : wp (ta L S) fun t S1 => (t = true → wp (tb L S1) PB) ∧ (t = false → PB false S1)) : wp (tAn ta tb L S) PB := by
  unfold tAn; rw [wp_bind]; refine h.mono fun t S1 ⟨h1, h2⟩ => ?_
  cases t with
  | true => first | exact h1 rfl | exact ⟨h1 rfl⟩ | exact (h1 rfl).mono fun _ _ k => ⟨k⟩
  | false => first | exact h2 rfl | exact ⟨h2 rfl⟩ | exact (h2 rfl).mono fun _ _ k => ⟨k⟩
theorem r_tOo (h : wp (ta L S) fun t S1 => (t = true → PB true S1) ∧ (t = false → wp (tb L S1) PB)) : wp (tOo ta tb L S) PB := by
  unfold tOo; rw [wp_bind]; refine h.mono fun t S1 ⟨h1, h2⟩ => ?_
  cases t with
  | true => first | exact h1 rfl | exact ⟨h1 rfl⟩ | exact (h1 rfl).mono fun _ _ k => ⟨k⟩
  | false => first | exact h2 rfl | exact ⟨h2 rfl⟩ | exact (h2 rfl).mono fun _ _ k => ⟨k⟩
theorem r_tYs (k : PB true S) : wp (tYs L S) PB := ⟨k⟩
theorem r_iVal (h : wp (m L S) fun d S1 => ∃ s, srcOf S1 d = some s ∧ PR s S1) : wp (iVal m L S) PR := by
  unfold iVal; rw [wp_bind]; exact h.mono fun _ _ h => r_lift h
theorem r_iArS {o : Sto → List D → Option Src} (h : wp (ma L S) fun ds S1 => ∃ s, o S1 ds = some s ∧ PR s S1) : wp (iArS o ma L S) PR := by
  unfold iArS; rw [wp_bind]; exact h.mono fun _ _ h => r_lift h
theorem r_iArgs {o : List D → Option Src} (h : wp (ma L S) fun ds S1 => ∃ s, o ds = some s ∧ PR s S1) : wp (iArgs o ma L S) PR := by
  unfold iArgs; rw [wp_bind]; exact h.mono fun _ _ h => r_lift h
theorem r_fLc {mi : Ls → Sto → R Src} {own : List Nat} {t : Tg} (h : wp (mi L S) fun src S1 => wp (lcLoop src.2 src.1 t ta m (wipeL L own) src.1 S1 []) PL) : wp (fLc mi own t ta m L S) PL := by
  unfold fLc; rw [wp_bind]; first | exact h | exact ⟨h⟩ | exact (h).mono fun _ _ k => ⟨k⟩
theorem q_nil (k : PS .nx L S) : wps (sNil L S) PS := ⟨k⟩
theorem q_brk (k : PS .bk L S) : wps (sBrk L S) PS := ⟨k⟩
theorem q_cnt (k : PS .ct L S) : wps (sCnt L S) PS := ⟨k⟩
theorem q_retN (k : PS (.rt .non) L S) : wps (sRetN L S) PS := ⟨k⟩
theorem q_seq (h : wps (sa L S) fun fl L1 S1 => match fl with
    | .nx => wps (sb L1 S1) PS
    | fl => PS fl L1 S1) : wps (sSeq sa sb L S) PS := by unfold sSeq; rw [wps_seq]; first | exact h | exact ⟨h⟩ | exact (h).mono fun _ _ k => ⟨k⟩
theorem q_ret (h : wp (m L S) fun d S1 => PS (.rt d) L S1) : wps (sRet m L S) PS := by unfold sRet; rw [wps_st]; first | exact h | exact ⟨h⟩ | exact (h).mono fun _ _ k => ⟨k⟩
theorem q_drop (h : wp (m L S) fun d S1 => PS .nx L S1) : wps (sDrop m L S) PS := by unfold sDrop; rw [wps_st]; first | exact h | exact ⟨h⟩ | exact (h).mono fun _ _ k => ⟨k⟩
theorem q_set (h : wp (m L S) fun d S1 => PS .nx (L.set i (.v d)) S1) : wps (sSet i m L S) PS := by unfold sSet; rw [wps_st]; first | exact h | exact ⟨h⟩ | exact (h).mono fun _ _ k => ⟨k⟩
theorem q_own (h : wp (ma L S) fun ds S1 => PS .nx (L.set i (.o (.lst ds))) S1) : wps (sOwn i ma L S) PS := by unfold sOwn; rw [wps_st]; first | exact h | exact ⟨h⟩ | exact (h).mono fun _ _ k => ⟨k⟩
theorem q_frz (h : L[i]? = some (.o (.lst ds))) (k : wps (sa (L.set i (.v (.lst ds))) S) PS) : wps (sFrz i sa L S) PS := by unfold sFrz; rw [h]; first | exact k | exact ⟨k⟩ | exact (k).mono fun _ _ k => ⟨k⟩
theorem q_frzV (h : L[i]? = some (.v d)) (k : wps (sa L S) PS) : wps (sFrz i sa L S) PS := by unfold sFrz; rw [h]; first | exact k | exact ⟨k⟩ | exact (k).mono fun _ _ k => ⟨k⟩
theorem q_tg {t : Tg} (h : wp (m L S) fun d S1 => ∃ L1, tgA t d L = some L1 ∧ PS .nx L1 S1) : wps (sTg t m L S) PS := by
  unfold sTg; rw [wps_st]; refine h.mono fun d S1 ⟨L1, e, h⟩ => ?_; rw [e]; first | exact h | exact ⟨h⟩ | exact (h).mono fun _ _ k => ⟨k⟩
theorem q_par2 (h : wp (ma L S) fun ds S1 => ∃ x y, ds = [x, y] ∧ PS .nx ((L.set i (.v x)).set j (.v y)) S1) : wps (sPar2 i j ma L S) PS := by
  unfold sPar2; rw [wps_st]; refine h.mono fun d S1 ⟨x, y, e, h⟩ => ?_; subst e; first | exact h | exact ⟨h⟩ | exact (h).mono fun _ _ k => ⟨k⟩
theorem q_par3 (h : wp (ma L S) fun ds S1 => ∃ x y z, ds = [x, y, z] ∧ PS .nx (((L.set i (.v x)).set j (.v y)).set l (.v z)) S1) : wps (sPar3 i j l ma L S) PS := by
  unfold sPar3; rw [wps_st]; refine h.mono fun d S1 ⟨x, y, z, e, h⟩ => ?_; subst e; first | exact h | exact ⟨h⟩ | exact (h).mono fun _ _ k => ⟨k⟩
theorem q_if (h : wp (ta L S) fun t S1 => (t = true → wps (sa L S1) PS) ∧ (t = false → wps (sb L S1) PS)) : wps (sIf ta sa sb L S) PS := by
  unfold sIf; rw [wps_st]; refine h.mono fun t S1 ⟨h1, h2⟩ => ?_
  cases t with
  | true => first | exact h1 rfl | exact ⟨h1 rfl⟩ | exact (h1 rfl).mono fun _ _ k => ⟨k⟩
  | false => first | exact h2 rfl | exact ⟨h2 rfl⟩ | exact (h2 rfl).mono fun _ _ k => ⟨k⟩
theorem q_app (h : L[i]? = some (.o (.lst ds))) (k : wp (m L S) fun d S1 => ds.length < sizeLine ∧ PS .nx (L.set i (.o (.lst (ds ++ [d])))) S1) : wps (sApp i m L S) PS := by
  unfold sApp; rw [h]; dsimp only; rw [wps_st]; refine k.mono fun d S1 ⟨h1, h2⟩ => ?_; rw [if_pos h1]; first | exact h2 | exact ⟨h2⟩ | exact (h2).mono fun _ _ k => ⟨k⟩
theorem q_putO (h : wp (c L S) fun d S1 => wp (a L S1) fun o S2 => ∃ n, o = .obj n ∧ wp (b L S2) fun j S3 => ∃ k ds jj, j = .int k ∧ S3[n]? = some (.lst ds) ∧ ixN ds.length k = some jj ∧ PS .nx L (S3.set n (.lst (ds.set jj d)))) : wps (sPutO a b c L S) PS := by
  unfold sPutO; rw [wps_st]; refine h.mono fun d S1 h => ?_; rw [wps_st]; refine h.mono fun o S2 ⟨n, e, h⟩ => ?_
  subst e; dsimp only; rw [wps_st]; refine h.mono fun j S3 ⟨k, ds, jj, e1, e2, e3, h⟩ => ?_
  subst e1; dsimp only; rw [e2]; dsimp only; rw [e3]; first | exact h | exact ⟨h⟩ | exact (h).mono fun _ _ k => ⟨k⟩
theorem q_put (h : wp (b L S) fun d S1 => ∃ ds, L[i]? = some (.o (.lst ds)) ∧ wp (a L S1) fun j S2 => ∃ k jj, j = .int k ∧ ixN ds.length k = some jj ∧ PS .nx (L.set i (.o (.lst (ds.set jj d)))) S2) : wps (sPut i a b L S) PS := by
  unfold sPut; rw [wps_st]; refine h.mono fun d S1 ⟨ds, e, h⟩ => ?_
  rw [e]; dsimp only; rw [wps_st]; refine h.mono fun j S3 ⟨k, jj, e1, e3, h⟩ => ?_
  subst e1; dsimp only; rw [e3]; first | exact h | exact ⟨h⟩ | exact (h).mono fun _ _ k => ⟨k⟩
theorem q_aug {o : D → D → Option D} (h : L[i]? = some (.v d)) (k : wp (m L S) fun y S1 => ∃ z, o (deref S1 d) (deref S1 y) = some z ∧ PS .nx (L.set i (.v z)) S1) : wps (sAug i o m L S) PS := by
  unfold sAug; rw [h]; dsimp only; rw [wps_st]; refine k.mono fun d S1 ⟨z, e, h⟩ => ?_; rw [e]; first | exact h | exact ⟨h⟩ | exact (h).mono fun _ _ k => ⟨k⟩
theorem q_for {mi : Ls → Sto → R Src} {t : Tg} (h : wp (mi L S) fun src S1 => wps (forL src.2 src.1 t sa src.1 L S1) PS) : wps (sFor mi t sa L S) PS := by
  unfold sFor; rw [wps_st]; first | exact h | exact ⟨h⟩ | exact (h).mono fun _ _ k => ⟨k⟩
theorem q_fn {n np : Nat} {P : D → Sto → Prop} {ds : List D} (hl : ds.length = np) (h : wps (sa (ds.map .v ++ List.replicate (n - np) .un) S) fun fl _ S1 => match fl with
    | .nx => P .non S1
    | .rt d => P d S1
    | _ => False) : wp (fnSem n np sa ds S) P := by
  unfold fnSem; rw [if_pos hl]; exact wp_end h
end
noncomputable def m_draw1 : SM := sSeq (sPutO (eVar 0) (eC (.int 1)) (eBin oAdd (eBin oIx (pVar 0) (eC (.int 1))) (eC (.int 1)))) (sSeq (sSet 2 (eBin oMod (eCall bInt (aCons (eBin oIx (pVar 0) (eC (.int 1))) (aNil))) (eCall bMax2 (aCons (eC (.int 1)) (aCons (eCall bLen (aCons (eBin oIx (pVar 0) (eC (.int 0))) (aNil))) (aNil)))))) (sSeq (sSet 3 (eBin oIx (eBin oAdd (eBin oIx (pVar 0) (eC (.int 0))) (eFz (fLst (aCons (eC (.int 0)) (aNil))))) (pVar 2))) (sSeq (sIf (tOfE (eBin cGe (pVar 3) (eBin oPow (eC (.int 10)) (eC (.int 18))))) (sSeq (sPutO (eBin oIx (pVar 0) (eC (.int 0))) (eVar 2) (eBin oFdiv (pVar 3) (pVar 1))) (sSeq (sRet (eBin oMod (eCall bInt (aCons (pVar 3) (aNil))) (pVar 1))) (sNil))) (sNil)) (sSeq (sSet 4 (eBin oPow (eBin oAdd (eBin oAdd (eBin oMod (eCall bInt (aCons (pVar 3) (aNil))) (eC (.int 2147483587))) (eBin oMul (eC (.int 7919)) (eBin oIx (pVar 0) (eC (.int 1))))) (eC (.int 1))) (eC (.int 5)))) (sSeq (sRet (eBin oMod (eCall bInt (aCons (eBin oMod (eCall bInt (aCons (pVar 4) (aNil))) (eC (.int 2147483647))) (aNil))) (pVar 1))) (sNil))))))
noncomputable def c_draw1 : Fn := fnSem 5 2 m_draw1
theorem atI_some {α : Type} {xs : List α} {i : Nat} {a : α} (h : xs[i]? = some a) : L2.atI xs (i : Int) = some a := by
  unfold L2.atI ixN
  have hl : i < xs.length := (List.getElem?_eq_some_iff.mp h).1
  rw [if_pos (Int.natCast_nonneg i), if_pos (by omega)]
  exact h
theorem r_dec {p : Prop} [Decidable p] {A B : Prop} (h1 : p → A) (h2 : ¬ p → B) : (decide p = true → A) ∧ (decide p = false → B) := ⟨fun h => h1 (of_decide_eq_true h), fun h => h2 (of_decide_eq_false h)⟩
theorem r_isT {t : Bool} {A B : Prop} (h : t = true) (k : A) : (t = true → A) ∧ (t = false → B) := ⟨fun _ => k, fun z => Bool.noConfusion (h.symm.trans z)⟩
theorem r_isF {t : Bool} {A B : Prop} (h : t = false) (k : B) : (t = true → A) ∧ (t = false → B) := ⟨fun z => Bool.noConfusion (h.symm.trans z), fun _ => k⟩
theorem x_addi {a b : Int} : oAdd (.int a) (.int b) = some (.int (a + b)) := rfl
theorem x_adds {a b : List Nat} (h : a.length + b.length ≤ sizeLine) : oAdd (.str a) (.str b) = some (.str (a ++ b)) := if_pos h
theorem x_addt {a b : List D} (h : a.length + b.length ≤ sizeLine) : oAdd (.tup a) (.tup b) = some (.tup (a ++ b)) := if_pos h
theorem x_addl {a b : List D} (h : a.length + b.length ≤ sizeLine) : oAdd (.lst a) (.lst b) = some (.lst (a ++ b)) := if_pos h
theorem x_subi {a b : Int} : oSub (.int a) (.int b) = some (.int (a - b)) := rfl
theorem x_muli {a b : Int} (h : a.natAbs.log2 + b.natAbs.log2 < 1000000) : oMul (.int a) (.int b) = some (.int (a * b)) := if_pos h
theorem x_div {a b : Int} (h : 0 < b ∧ b.natAbs.log2 < 9000) : oFdiv (.int a) (.int b) = some (.int (a / b)) := if_pos h
theorem x_mod {a b : Int} (h : 0 < b) : oMod (.int a) (.int b) = some (.int (a % b)) := if_pos h
theorem x_pow {a b : Int} (h : 0 ≤ b ∧ b ≤ 1000000 ∧ a.natAbs < 2 ^ 64) : oPow (.int a) (.int b) = some (.int (a ^ b.toNat)) := if_pos h
theorem x_eqi {a b : Int} : cEq (.int a) (.int b) = some (.bl (decide (a = b))) := rfl
theorem x_nei {a b : Int} : cNe (.int a) (.int b) = some (.bl (decide (a ≠ b))) := by
  by_cases h : a = b
  · subst h; simp [cNe, eqB, flatEq]
  · simp [cNe, eqB, flatEq, h]
theorem x_lti {a b : Int} : cLt (.int a) (.int b) = some (.bl (decide (a < b))) := rfl
theorem x_lei {a b : Int} : cLe (.int a) (.int b) = some (.bl (decide (a ≤ b))) := rfl
theorem x_gti {a b : Int} : cGt (.int a) (.int b) = some (.bl (decide (b < a))) := rfl
theorem x_gei {a b : Int} : cGe (.int a) (.int b) = some (.bl (decide (b ≤ a))) := rfl
theorem x_eqs {a b : List Nat} : cEq (.str a) (.str b) = some (.bl (decide (a = b))) := by
  by_cases h : a = b
  · subst h; simp [cEq, eqB, flatEq]
  · simp [cEq, eqB, flatEq, h]
theorem x_nes {a b : List Nat} : cNe (.str a) (.str b) = some (.bl (decide (a ≠ b))) := by
  by_cases h : a = b
  · subst h; simp [cNe, eqB, flatEq]
  · simp [cNe, eqB, flatEq, h]
local macro_rules | `(tactic| walk_at "rf") => `(tactic| first
  | with_reducible refine q_seq ?_ | with_reducible refine q_nil ?_ | with_reducible refine q_set ?_ | with_reducible refine q_ret ?_ | with_reducible refine q_if ?_ | with_reducible refine q_retN ?_ | with_reducible refine q_drop ?_ | with_reducible refine q_tg ?_ | with_reducible refine q_par2 ?_ | with_reducible refine q_par3 ?_ | with_reducible refine q_own ?_ | ((with_reducible apply q_frz); exact rfl) | ((with_reducible apply q_frzV); exact rfl) | ((with_reducible apply q_app); exact rfl) | with_reducible refine q_putO ?_ | with_reducible refine q_put ?_ | ((with_reducible apply q_aug); exact rfl) | with_reducible refine q_brk ?_ | with_reducible refine q_cnt ?_
  | ((with_reducible apply r_pVar); exact rfl) | ((with_reducible apply r_eVar); exact rfl) | ((with_reducible apply r_pOwn); exact rfl) | with_reducible refine r_eC ?_ | with_reducible refine r_eBin ?_ | with_reducible refine r_eCall ?_ | with_reducible refine r_aCons ?_ | with_reducible refine r_aNil ?_ | with_reducible refine r_eFn ?_ | with_reducible refine r_tOfE ?_ | with_reducible refine r_tTr ?_ | with_reducible refine r_tNt ?_ | with_reducible refine r_tAn ?_ | with_reducible refine r_tOo ?_ | with_reducible refine r_tYs ?_
  | with_reducible refine r_eTup ?_ | with_reducible refine r_fLst ?_ | with_reducible refine r_eFz ?_ | with_reducible refine r_eNw ?_ | with_reducible refine r_eIf ?_ | with_reducible refine r_eAn ?_ | with_reducible refine r_eOo ?_ | with_reducible refine r_eNt ?_ | with_reducible refine r_eNeg ?_ | with_reducible refine r_eCh ?_ | with_reducible refine r_eSl ?_ | with_reducible refine r_oNo ?_ | with_reducible refine r_oSo ?_ | with_reducible refine r_eM0 ?_ | with_reducible refine r_eM1 ?_ | with_reducible refine r_eInT ?_ | with_reducible refine r_eIxT ?_ | with_reducible refine r_fCall ?_
  | with_reducible refine r_ok ?_ | with_reducible refine r_okL ?_ 
  | with_reducible refine ⟨_, x_addi, ?_⟩ | with_reducible refine ⟨_, x_subi, ?_⟩ | with_reducible refine ⟨_, x_eqi, ?_⟩ | with_reducible refine ⟨_, x_lti, ?_⟩ | with_reducible refine ⟨_, x_lei, ?_⟩ | with_reducible refine ⟨_, x_gti, ?_⟩ | with_reducible refine ⟨_, x_gei, ?_⟩ | with_reducible refine ⟨_, x_nei, ?_⟩ | with_reducible refine ⟨_, x_eqs, ?_⟩ | with_reducible refine ⟨_, x_nes, ?_⟩
  | with_reducible refine ⟨_, x_muli (by first | assumption | decide), ?_⟩ | with_reducible refine ⟨_, x_mod (by first | assumption | decide | omega), ?_⟩ | with_reducible refine ⟨_, x_pow (by first | assumption | decide), ?_⟩ | with_reducible refine ⟨_, x_div (by first | assumption | decide), ?_⟩
  | (fail_if_success (with_reducible refine ⟨_, x_muli ?_, ?_⟩)
     fail_if_success (with_reducible refine ⟨_, x_mod ?_, ?_⟩)
     fail_if_success (with_reducible refine ⟨_, x_pow ?_, ?_⟩)
     fail_if_success (with_reducible refine ⟨_, x_div ?_, ?_⟩)
     fail_if_success (with_reducible refine ⟨_, x_adds ?_, ?_⟩)
     fail_if_success (with_reducible refine ⟨_, x_addt ?_, ?_⟩)
     fail_if_success (with_reducible refine ⟨_, x_addl ?_, ?_⟩)
     (with_reducible apply Exists.intro)
     (repeat (with_reducible apply Exists.intro))
     refine And.intro rfl ?_)
  | ((with_reducible refine And.intro ?_ ?_); exact rfl)
  | ((with_reducible refine And.intro ?_ ?_); exact Nat.le_of_ble_eq_true rfl))
theorem draw1 {T S : Sto} {n : Nat} {many : Int} (h : Deck T (n + 1) S) (h0 : 0 < many) (hm : many.natAbs.log2 < 9000) : ∃ (r : Int) (S' : Sto), c_draw1 [.obj 1, .int many] S = .ok (.int r) S' ∧ 0 ≤ r ∧ r < many ∧ Deck T n S' := by
  obtain ⟨cs, c, rfl, hcs, hc, hcn, hlen⟩ := h
  have hlz : cs.length ≤ sizeLine := Nat.le_trans hlen (by decide)
  -- the place and the cell
  obtain ⟨p, hp⟩ : ∃ p : Nat, (p : Int) = (c + 1) % (if (cs.length : Int) > 1 then (cs.length : Int) else 1) := by
    have : 0 ≤ (c + 1) % (if (cs.length : Int) > 1 then (cs.length : Int) else 1) := Int.emod_nonneg _ (by split <;> omega)
    exact ⟨((c + 1) % (if (cs.length : Int) > 1 then (cs.length : Int) else 1)).toNat, by omega⟩
  have hp2 : (p : Int) < (if (cs.length : Int) > 1 then (cs.length : Int) else 1) := by
    rw [hp]; exact Int.emod_lt_of_pos _ (by split <;> omega)
  have hpl : p < cs.length + 1 := by split at hp2 <;> omega
  obtain ⟨x, hx⟩ : ∃ x : Int, (cs ++ [0])[p]? = some x := ⟨_, List.getElem?_eq_getElem (by rw [List.length_append, List.length_singleton]; exact hpl)⟩
  have hx0 : 0 ≤ x := by
    have := List.mem_of_getElem? hx
    rcases List.mem_append.mp this with z | z
    · exact hcs x z
    · rw [List.mem_singleton.mp z]; exact Int.le_refl _
  have hxD : (cs.map D.int ++ [D.int 0])[p]? = some (.int x) := by
    have : cs.map D.int ++ [D.int 0] = (cs ++ [0]).map D.int := by rw [List.map_append]; rfl
    rw [this, List.getElem?_map, hx]; rfl
  have hix := atI_some hxD
  have h18 : (0:Int) < 10 ^ 18 := by decide
  suffices h : wp (c_draw1 [.obj 1, .int many] (.lst (cs.map .int) :: .lst [.obj 0, .int c] :: T)) fun d S' => ∃ r, d = .int r ∧ 0 ≤ r ∧ r < many ∧ Deck T n S' by
    obtain ⟨d, S', e, r, rfl, h⟩ := h.ex
    exact ⟨r, S', e, h⟩
  unfold c_draw1
  refine q_fn rfl ?_
  unfold m_draw1
  have hlm : (cs.map D.int).length = cs.length := List.length_map _
  rw [← hlm] at hp hp2
  repeat walk_at "rf"
  refine ⟨.lst (cs.map D.int ++ [D.int 0]), if_pos (by
    show (cs.map D.int).length + 1 ≤ sizeLine
    rw [List.length_map]
    have : 64 ≤ sizeLine := by decide
    omega), ?_⟩
  repeat walk_at "rf"
  refine ⟨.int x, by rw [← hp]; exact hix, ?_⟩
  repeat walk_at "rf"
  refine ⟨fun ht => ?_, fun ht => ?_⟩
  · have hge : (10:Int) ^ 18 ≤ x := of_decide_eq_true ht
    have hp3 : p < cs.length := by
      rcases Nat.lt_or_ge p cs.length with z | z
      · exact z
      · rw [List.getElem?_append_right z] at hx
        have : p - cs.length = 0 := by omega
        rw [this] at hx
        cases hx
        omega
    have hdv : 0 < many ∧ many.natAbs.log2 < 9000 := ⟨h0, hm⟩
    repeat walk_at "rf"
    have hix2 : ixN (cs.map D.int).length ((c + 1) % (if ((cs.map D.int).length : Int) > 1 then ((cs.map D.int).length : Int) else 1)) = some p := by
      unfold ixN
      rw [← hp, if_pos (Int.natCast_nonneg p), if_pos (by rw [List.length_map]; omega)]
      rfl
    refine ⟨hix2, ?_⟩
    repeat walk_at "rf"
    refine ⟨Int.emod_nonneg _ (by omega), Int.emod_lt_of_pos _ h0, ?_⟩
    refine ⟨cs.set p (x / many), c + 1, ?_, fun y hy => ?_, by omega, by omega, by rw [List.length_set]; exact hlen⟩
    · rw [List.map_set]; rfl
    · rcases List.mem_or_eq_of_mem_set hy with z | z
      · exact hcs y z
      · rw [z]; exact Int.ediv_nonneg hx0 (by omega)
  · have hm0 : 0 ≤ x % 2147483587 := Int.emod_nonneg _ (by decide)
    have hm1 : x % 2147483587 < 2147483587 := Int.emod_lt_of_pos _ (by decide)
    have hb : (0:Int) ≤ 5 ∧ (5:Int) ≤ 1000000 ∧ (x % 2147483587 + 7919 * (c + 1) + 1).natAbs < 2 ^ 64 := ⟨by decide, by decide, by omega⟩
    have hl : (7919 : Int).natAbs.log2 + (c + 1).natAbs.log2 < 1000000 := by
      have h1 : (c + 1).natAbs < 2 ^ 41 := by omega
      have h2 : (c + 1).natAbs.log2 < 41 := (Nat.log2_lt (by omega)).mpr h1
      have h3 : (7919 : Int).natAbs.log2 = 12 := by decide
      omega
    repeat walk_at "rf"
    exact ⟨Int.emod_nonneg _ (by omega), Int.emod_lt_of_pos _ h0, cs, c + 1, rfl, hcs, by omega, by omega, hlen⟩
noncomputable def m_one : SM := sSeq (sRet (eBin oIx (pVar 1) (eFn c_draw1 (aCons (eVar 0) (aCons (eCall bLen (aCons (pVar 1) (aNil))) (aNil)))))) (sNil)
noncomputable def c_one : Fn := fnSem 2 2 m_one
section
variable {T S : Sto} {n : Nat} {P : D → Sto → Prop}
theorem w_draw {many : Int} (h : Deck T (n + 1) S) (h0 : 0 < many) (hm : many.natAbs.log2 < 9000) (k : ∀ (r : Int) (S' : Sto), 0 ≤ r → r < many → Deck T n S' → P (.int r) S') : wp (c_draw1 [.obj 1, .int many] S) P := by
  obtain ⟨r, S', e, h1, h2, h3⟩ := draw1 h h0 hm
  rw [e]
  exact ⟨k r S' h1 h2 h3⟩
theorem w_one {xs : List D} (h : Deck T (n + 1) S) (h0 : xs ≠ []) (hz : xs.length < 2 ^ 40) (k : ∀ (x : D) (S' : Sto), x ∈ xs → Deck T n S' → P x S') : wp (c_one [.obj 1, .lst xs] S) P := by
  unfold c_one
  refine q_fn rfl ?_
  unfold m_one
  have hl : 0 < xs.length := List.length_pos_iff.mpr h0
  repeat walk_at "rf"
  refine w_draw h (by omega) ?_ fun r S' h1 h2 h3 => ?_
  · have : ((xs.length : Int)).natAbs = xs.length := rfl
    rw [this]
    have := (Nat.log2_lt (by omega)).mpr hz
    omega
  · obtain ⟨j, rfl⟩ := Int.eq_ofNat_of_zero_le h1
    have hj : j < xs.length := by omega
    refine ⟨xs[j], atI_some (List.getElem?_eq_getElem hj), ?_⟩
    exact k _ _ (List.getElem_mem hj) h3
end
theorem lg {n k : Nat} (h : n < 2 ^ k) (hk : 0 < k) : n.log2 < k := by
  by_cases z : n = 0
  · rw [z]; exact hk
  · exact (Nat.log2_lt z).mpr h
theorem lgi {i : Int} {k : Nat} (h : i.natAbs < 2 ^ k) (hk : 0 < k) : i.natAbs.log2 < k := lg h hk
theorem numL_lenk {n k : Nat} (hk : 1 ≤ k) (h : n < 10 ^ k) : (numL n).length ≤ k := by
  unfold numL
  rw [List.length_map]
  have := PySem.digitsCore_len_pow 10 (by decide) k (n + 1) n [] hk h
  simpa [Nat.toDigits] using this
end Rf
set_option Elab.async false
set_option linter.all false
set_option maxRecDepth 100000
set_option maxHeartbeats 0
namespace Rf
open PySem L2 TL
class Wp [xp : ExP] {α : Type} (m : R α) (P : α → Sto → Prop) (G : outParam Prop) : Prop where
  imp : G → wp m P
class Ws [xp : ExP] (m : RS) (P : Fl → Ls → Sto → Prop) (G : outParam Prop) : Prop where
  imp : G → wps m P
/-- an operation at known kinds -/
class Op (e : Option D) (z : outParam D) : Prop where
  eq : e = some z
/-- .. under a condition -/
class Og (e : Option D) (z : outParam D) (c : outParam Prop) : Prop where
  eq : c → e = some z
variable {xp : ExP}
section
variable {P : D → Sto → Prop} {PL : List D → Sto → Prop} {PB : Bool → Sto → Prop} {PO : Option Int → Sto → Prop} {PS : Fl → Ls → Sto → Prop} {PR : Src → Sto → Prop} {L : Ls} {S : Sto} {i j l : Nat} {d : D} {ds : List D} {a b c m : EM} {ma mr : Ls → Sto → R (List D)} {ta tb : Ls → Sto → R Bool} {sa sb : SM}
  {o o' : D → D → Option D} {oL : List D → Option D} {oF : List D → Option (List D)} {f : Fn} {o1 : List Nat → D → Option D} {o0 : D → Option D} {ml mh : Ls → Sto → R (Option Int)} {ng : Bool} {t : Tb} {tg : Tg} {own : List Nat} {mi : Ls → Sto → R Src} {oS : List D → Option Src}
theorem v_pVar (h : ∃ v, L[i]? = some v ∧ match v with
    | .v d => P d S
    | .o (.lst ds) => P (.lst ds) S
    | _ => False) : wp (pVar i L S) P := by
  obtain ⟨v, e, h⟩ := h
  cases v with
  | v d => exact r_pVar e h
  | o u => cases u with
    | lst ds => exact r_pOwn e h
    | _ => exact h.elim
  | un => exact h.elim
  | exc x => exact h.elim
theorem v_eVar (h : ∃ d, L[i]? = some (.v d) ∧ P d S) : wp (eVar i L S) P := by obtain ⟨d, e, h⟩ := h; exact r_eVar e h
theorem v_frz (h : ∃ v, L[i]? = some v ∧ match v with
    | .v _ => wps (sa L S) PS
    | .o (.lst ds) => wps (sa (L.set i (.v (.lst ds))) S) PS
    | _ => False) : wps (sFrz i sa L S) PS := by
  obtain ⟨v, e, h⟩ := h
  cases v with
  | v d => exact q_frzV e h
  | o u => cases u with
    | lst ds => exact q_frz e h
    | _ => exact h.elim
  | un => exact h.elim
  | exc x => exact h.elim
theorem v_app (h : ∃ ds, L[i]? = some (.o (.lst ds)) ∧ wp (m L S) fun d S1 => ds.length < sizeLine ∧ PS .nx (L.set i (.o (.lst (ds ++ [d])))) S1) : wps (sApp i m L S) PS := by obtain ⟨d, e, h⟩ := h; exact q_app e h
theorem v_aug (h : ∃ d, L[i]? = some (.v d) ∧ wp (m L S) fun y S1 => ∃ z, o (deref S1 d) (deref S1 y) = some z ∧ PS .nx (L.set i (.v z)) S1) : wps (sAug i o m L S) PS := by obtain ⟨d, e, h⟩ := h; exact q_aug e h
instance : Wp (eVar i L S) P (∃ d, L[i]? = some (.v d) ∧ P d S) := ⟨v_eVar⟩
instance : Wp (pVar i L S) P (∃ v, L[i]? = some v ∧ match v with
    | .v d => P d S
    | .o (.lst ds) => P (.lst ds) S
    | _ => False) := ⟨v_pVar⟩
instance : Wp (.ok d S) P (P d S) := ⟨r_ok⟩
instance : Wp (.ok ds S) PL (PL ds S) := ⟨r_okL⟩
instance : Wp (eC d L S) P (P d S) := ⟨r_eC⟩
instance {o : D → D → Option D} : Wp (eBin o a b L S) P (wp (a L S) fun x S1 => wp (b L S1) fun y S2 => ∃ z, o (deref S2 x) (deref S2 y) = some z ∧ P z S2) := ⟨r_eBin⟩
instance {o o' : D → D → Option D} : Wp (eCh o o' a b c L S) P (wp (a L S) fun x S1 => wp (b L S1) fun y S2 => ∃ t, o (deref S2 x) (deref S2 y) = some (.bl t) ∧ (t = true → wp (c L S2) fun z S3 => ∃ w, o' (deref S3 y) (deref S3 z) = some w ∧ P w S3) ∧ (t = false → P (.bl false) S2)) := ⟨r_eCh⟩
instance : Wp (eAn a b L S) P (wp (a L S) fun d S1 => ∃ t, d = .bl t ∧ (t = true → wp (b L S1) P) ∧ (t = false → P (.bl false) S1)) := ⟨r_eAn⟩
instance : Wp (eOo a b L S) P (wp (a L S) fun d S1 => ∃ t, d = .bl t ∧ (t = true → P (.bl true) S1) ∧ (t = false → wp (b L S1) P)) := ⟨r_eOo⟩
instance : Wp (eNt a L S) P (wp (a L S) fun d S1 => ∃ t, d = .bl t ∧ P (.bl (!t)) S1) := ⟨r_eNt⟩
instance : Wp (eIf ta a b L S) P (wp (ta L S) fun t S1 => (t = true → wp (a L S1) P) ∧ (t = false → wp (b L S1) P)) := ⟨r_eIf⟩
instance : Wp (eNeg a L S) P (wp (a L S) fun d S1 => ∃ n, d = .int n ∧ P (.int (-n)) S1) := ⟨r_eNeg⟩
instance : Wp (aNil L S) PL (PL [] S) := ⟨r_aNil⟩
instance : Wp (aCons m mr L S) PL (wp (m L S) fun d S1 => wp (mr L S1) fun ds S2 => PL (d :: ds) S2) := ⟨r_aCons⟩
instance : Wp (eTup ma L S) P (wp (ma L S) fun ds S1 => ds.length ≤ sizeLine ∧ P (.tup ds) S1) := ⟨r_eTup⟩
instance : Wp (fLst ma L S) PL (wp (ma L S) fun ds S1 => ds.length ≤ sizeLine ∧ PL ds S1) := ⟨r_fLst⟩
instance : Wp (eFz ma L S) P (wp (ma L S) fun ds S1 => P (.lst ds) S1) := ⟨r_eFz⟩
instance : Wp (eNw ma L S) P (wp (ma L S) fun ds S1 => P (.obj S1.length) (S1 ++ [.lst ds])) := ⟨r_eNw⟩
instance {o : List D → Option D} : Wp (eCall o ma L S) P (wp (ma L S) fun ds S1 => ∃ z, o (ds.map (deref S1)) = some z ∧ P z S1) := ⟨r_eCall⟩
instance {o : List D → Option (List D)} : Wp (fCall o ma L S) PL (wp (ma L S) fun ds S1 => ∃ z, o (ds.map (deref S1)) = some z ∧ PL z S1) := ⟨r_fCall⟩
instance {f : Fn} : Wp (eFn f ma L S) P (wp (ma L S) fun ds S1 => wp (f ds S1) P) := ⟨r_eFn⟩
instance {o : List Nat → D → Option D} : Wp (eM1 o a b L S) P (wp (a L S) fun d S1 => ∃ x, d = .str x ∧ wp (b L S1) fun e S2 => ∃ z, o x (deref S2 e) = some z ∧ P z S2) := ⟨r_eM1⟩
instance {o : D → Option D} : Wp (eM0 o a L S) P (wp (a L S) fun d S1 => ∃ z, o d = some z ∧ P z S1) := ⟨r_eM0⟩
instance : Wp (oNo L S) PO (PO none S) := ⟨r_oNo⟩
instance : Wp (oSo m L S) PO (wp (m L S) fun d S1 => ∃ o, optO d = some o ∧ PO o S1) := ⟨r_oSo⟩
instance {ml mh : Ls → Sto → R (Option Int)} : Wp (eSl a ml mh L S) P (wp (a L S) fun d S1 => wp (ml L S1) fun lo S2 => wp (mh L S2) fun hi S3 => ∃ z, oSl (deref S3 d) lo hi = some z ∧ P z S3) := ⟨r_eSl⟩
instance {ng : Bool} {t : Tb} : Wp (eInT ng t m L S) P (wp (m L S) fun d S1 => ∃ z, d = .str z ∧ P (.bl (ng != (t.get z).isSome)) S1) := ⟨r_eInT⟩
instance {t : Tb} : Wp (eIxT t m L S) P (wp (m L S) fun d S1 => ∃ z, d = .str z ∧ ∃ r, t.get z = some r ∧ P r S1) := ⟨r_eIxT⟩
instance : Wp (tOfE m L S) PB (wp (m L S) fun d S1 => ∃ t, d = .bl t ∧ PB t S1) := ⟨r_tOfE⟩
instance : Wp (tTr m L S) PB (wp (m L S) fun d S1 => ∃ t, truth (deref S1 d) = some t ∧ PB t S1) := ⟨r_tTr⟩
instance : Wp (tNt ta L S) PB (wp (ta L S) fun t S1 => PB (!t) S1) := ⟨r_tNt⟩
instance : Wp (tAn ta tb L S) PB (wp (ta L S) fun t S1 => (t = true → wp (tb L S1) PB) ∧ (t = false → PB false S1)) := ⟨r_tAn⟩
instance : Wp (tOo ta tb L S) PB (wp (ta L S) fun t S1 => (t = true → PB true S1) ∧ (t = false → wp (tb L S1) PB)) := ⟨r_tOo⟩
instance : Wp (tYs L S) PB (PB true S) := ⟨r_tYs⟩
instance : Wp (iVal m L S) PR (wp (m L S) fun d S1 => ∃ s, srcOf S1 d = some s ∧ PR s S1) := ⟨r_iVal⟩
instance {o : Sto → List D → Option Src} : Wp (iArS o ma L S) PR (wp (ma L S) fun ds S1 => ∃ s, o S1 ds = some s ∧ PR s S1) := ⟨r_iArS⟩
instance {o : List D → Option Src} : Wp (iArgs o ma L S) PR (wp (ma L S) fun ds S1 => ∃ s, o ds = some s ∧ PR s S1) := ⟨r_iArgs⟩
instance {mi : Ls → Sto → R Src} {own : List Nat} {t : Tg} : Wp (fLc mi own t ta m L S) PL (wp (mi L S) fun src S1 => wp (lcLoop src.2 src.1 t ta m (wipeL L own) src.1 S1 []) PL) := ⟨r_fLc⟩
instance : Ws (sNil L S) PS (PS .nx L S) := ⟨q_nil⟩
instance : Ws (sBrk L S) PS (PS .bk L S) := ⟨q_brk⟩
instance : Ws (sCnt L S) PS (PS .ct L S) := ⟨q_cnt⟩
instance : Ws (sRetN L S) PS (PS (.rt .non) L S) := ⟨q_retN⟩
instance : Ws (sSeq sa sb L S) PS (wps (sa L S) fun fl L1 S1 => match fl with
    | .nx => wps (sb L1 S1) PS
    | fl => PS fl L1 S1) := ⟨q_seq⟩
instance : Ws (sRet m L S) PS (wp (m L S) fun d S1 => PS (.rt d) L S1) := ⟨q_ret⟩
instance : Ws (sDrop m L S) PS (wp (m L S) fun d S1 => PS .nx L S1) := ⟨q_drop⟩
instance : Ws (sSet i m L S) PS (wp (m L S) fun d S1 => PS .nx (L.set i (.v d)) S1) := ⟨q_set⟩
instance : Ws (sOwn i ma L S) PS (wp (ma L S) fun ds S1 => PS .nx (L.set i (.o (.lst ds))) S1) := ⟨q_own⟩
instance : Ws (sFrz i sa L S) PS (∃ v, L[i]? = some v ∧ match v with
    | .v _ => wps (sa L S) PS
    | .o (.lst ds) => wps (sa (L.set i (.v (.lst ds))) S) PS
    | _ => False) := ⟨v_frz⟩
instance {t : Tg} : Ws (sTg t m L S) PS (wp (m L S) fun d S1 => ∃ L1, tgA t d L = some L1 ∧ PS .nx L1 S1) := ⟨q_tg⟩
instance : Ws (sPar2 i j ma L S) PS (wp (ma L S) fun ds S1 => ∃ x y, ds = [x, y] ∧ PS .nx ((L.set i (.v x)).set j (.v y)) S1) := ⟨q_par2⟩
instance : Ws (sPar3 i j l ma L S) PS (wp (ma L S) fun ds S1 => ∃ x y z, ds = [x, y, z] ∧ PS .nx (((L.set i (.v x)).set j (.v y)).set l (.v z)) S1) := ⟨q_par3⟩
instance : Ws (sIf ta sa sb L S) PS (wp (ta L S) fun t S1 => (t = true → wps (sa L S1) PS) ∧ (t = false → wps (sb L S1) PS)) := ⟨q_if⟩
instance : Ws (sApp i m L S) PS (∃ ds, L[i]? = some (.o (.lst ds)) ∧ wp (m L S) fun d S1 => ds.length < sizeLine ∧ PS .nx (L.set i (.o (.lst (ds ++ [d])))) S1) := ⟨v_app⟩
instance : Ws (sPutO a b c L S) PS (wp (c L S) fun d S1 => wp (a L S1) fun o S2 => ∃ n, o = .obj n ∧ wp (b L S2) fun j S3 => ∃ k ds jj, j = .int k ∧ S3[n]? = some (.lst ds) ∧ ixN ds.length k = some jj ∧ PS .nx L (S3.set n (.lst (ds.set jj d)))) := ⟨q_putO⟩
instance : Ws (sPut i a b L S) PS (wp (b L S) fun d S1 => ∃ ds, L[i]? = some (.o (.lst ds)) ∧ wp (a L S1) fun j S2 => ∃ k jj, j = .int k ∧ ixN ds.length k = some jj ∧ PS .nx (L.set i (.o (.lst (ds.set jj d)))) S2) := ⟨q_put⟩
instance : Ws (sAug i o m L S) PS (∃ d, L[i]? = some (.v d) ∧ wp (m L S) fun y S1 => ∃ z, o (deref S1 d) (deref S1 y) = some z ∧ PS .nx (L.set i (.v z)) S1) := ⟨v_aug⟩
instance {mi : Ls → Sto → R Src} {t : Tg} : Ws (sFor mi t sa L S) PS (wp (mi L S) fun src S1 => wps (forL src.2 src.1 t sa src.1 L S1) PS) := ⟨q_for⟩
end
section
variable {a b : Int}
instance : Op (oAdd (.int a) (.int b)) (.int (a + b)) := ⟨x_addi⟩
instance : Op (oSub (.int a) (.int b)) (.int (a - b)) := ⟨x_subi⟩
instance : Op (cEq (.int a) (.int b)) (.bl (decide (a = b))) := ⟨x_eqi⟩
instance : Op (cNe (.int a) (.int b)) (.bl (decide (a ≠ b))) := ⟨x_nei⟩
instance : Op (cLt (.int a) (.int b)) (.bl (decide (a < b))) := ⟨x_lti⟩
instance : Op (cLe (.int a) (.int b)) (.bl (decide (a ≤ b))) := ⟨x_lei⟩
instance : Op (cGt (.int a) (.int b)) (.bl (decide (b < a))) := ⟨x_gti⟩
instance : Op (cGe (.int a) (.int b)) (.bl (decide (b ≤ a))) := ⟨x_gei⟩
instance {a b : List Nat} : Op (cEq (.str a) (.str b)) (.bl (decide (a = b))) := ⟨x_eqs⟩
instance {a b : List Nat} : Op (cNe (.str a) (.str b)) (.bl (decide (a ≠ b))) := ⟨x_nes⟩
instance : Og (oMul (.int a) (.int b)) (.int (a * b)) (a.natAbs.log2 + b.natAbs.log2 < 1000000) := ⟨x_muli⟩
instance : Og (oFdiv (.int a) (.int b)) (.int (a / b)) (0 < b ∧ b.natAbs.log2 < 9000) := ⟨x_div⟩
instance : Og (oMod (.int a) (.int b)) (.int (a % b)) (0 < b) := ⟨x_mod⟩
instance : Og (oPow (.int a) (.int b)) (.int (a ^ b.toNat)) (0 ≤ b ∧ b ≤ 1000000 ∧ a.natAbs < 2 ^ 64) := ⟨x_pow⟩
instance {a b : List Nat} : Og (oAdd (.str a) (.str b)) (.str (a ++ b)) (a.length + b.length ≤ sizeLine) := ⟨x_adds⟩
instance {a b : List D} : Og (oAdd (.tup a) (.tup b)) (.tup (a ++ b)) (a.length + b.length ≤ sizeLine) := ⟨x_addt⟩
instance {a b : List D} : Og (oAdd (.lst a) (.lst b)) (.lst (a ++ b)) (a.length + b.length ≤ sizeLine) := ⟨x_addl⟩
end
theorem g_op {e : Option D} {z : D} [h : Op e z] {Q : D → Prop} (k : Q z) : ∃ w, e = some w ∧ Q w := ⟨z, h.eq, k⟩
theorem g_og {e : Option D} {z : D} {c : Prop} [h : Og e z c] {Q : D → Prop} (hc : c) (k : Q z) : ∃ w, e = some w ∧ Q w := ⟨z, h.eq hc, k⟩
section
variable {all xs ds acc : List D} {d : D} {t : Tg} {b : SM} {L Lw : Ls} {S : Sto} {PS : Fl → Ls → Sto → Prop} {PL : List D → Sto → Prop} {tt : Ls → Sto → R Bool} {te : EM}
theorem f_nil (h : xs = []) (k : PS .nx L S) : wps (forL none all t b xs L S) PS := by subst h; exact ⟨k⟩
theorem f_cons (h : xs = d :: ds) (k : ∃ L1, tgA t d L = some L1 ∧ wps (b L1 S) fun fl L2 S2 => match fl with
    | .nx => wps (forL none all t b ds L2 S2) PS
    | .ct => wps (forL none all t b ds L2 S2) PS
    | .bk => PS .nx L2 S2
    | .rt x => PS (.rt x) L2 S2) : wps (forL none all t b xs L S) PS := by
  subst h
  obtain ⟨L1, e, k⟩ := k
  rw [forL, ckS, e]
  dsimp only
  cases q : b L1 S with
  | no => rw [q] at k; exact k.out.elim
  | ex x L2 S2 => rw [q] at k; exact ⟨k.out⟩
  | ok fl L2 S2 =>
    rw [q] at k
    cases fl <;> first | exact k.out | exact ⟨k.out⟩
end
theorem bls_map {α : Type} (f : α → Bool) : ∀ s : List α, blsD (s.map fun c => D.bl (f c)) = some (s.map f)
  | [] => rfl
  | c :: s => by rw [List.map_cons, blsD, bls_map f s]; rfl
theorem all_map {α : Type} (f : α → Bool) (s : List α) : bAll [.lst (s.map fun c => D.bl (f c))] = some (.bl (s.all f)) := by
  show (blsD (s.map fun c => D.bl (f c))).map (fun bs => D.bl (bs.all id)) = _
  rw [bls_map, Option.map_some, List.all_map]
  rfl
theorem g_rng1 {ds : List D} {j : Int} {P : Src → Prop} (hd : ds = [.int j]) (h : -(2 ^ 62) ≤ j ∧ j < 2 ^ 62) (k : P (rngI 0 j.toNat, none)) : ∃ s, rng1 ds = some s ∧ P s := by
  subst hd
  exact ⟨_, if_pos h, k⟩
theorem joinL_one : ∀ cs : List Nat, joinL [] (cs.map fun c => [c]) = cs
  | [] => rfl
  | [c] => rfl
  | c :: d :: cs => by
    have := joinL_one (d :: cs)
    simp only [List.map_cons] at this ⊢
    rw [joinL, this]
    rfl
theorem strs_map : ∀ cs : List (List Nat), strsD (cs.map .str) = some cs
  | [] => rfl
  | c :: cs => by rw [List.map_cons, strsD, strs_map cs]; rfl
theorem join_one {cs : List Nat} (h : cs.length ≤ 1000000) : oJoin [] (.lst (cs.map fun c => .str [c])) = some (.str cs) := by
  have e : (cs.map fun c => D.str [c]) = (cs.map fun c => [c]).map .str := by rw [List.map_map]; rfl
  show (strsD (cs.map fun c => D.str [c])).bind (jn []) = _
  rw [e, strs_map]
  show jn [] (cs.map fun c => [c]) = _
  unfold jn
  have hs : ∀ cs : List Nat, ((cs.map fun c => [c]).map (·.length)).sum = cs.length := fun cs => by
    induction cs with
    | nil => rfl
    | cons c cs ih =>
      rw [List.map_cons, List.map_cons, List.sum_cons, ih, List.length_cons]
      simp
      omega
  rw [if_pos (by rw [hs]; simp; omega), joinL_one]
theorem x_sls {x : List Nat} {lo hi : Option Int} (h : x.length ≤ sizeLine) : oSl (.str x) lo hi = some (.str (cutD x lo hi)) := if_pos h
instance {x : List Nat} {lo hi : Option Int} : Og (oSl (.str x) lo hi) (.str (cutD x lo hi)) (x.length ≤ sizeLine) := ⟨x_sls⟩
instance {x : List D} {lo hi : Option Int} : Op (oSl (.lst x) lo hi) (.lst (cutD x lo hi)) := ⟨rfl⟩
instance {x : List D} {lo hi : Option Int} : Op (oSl (.tup x) lo hi) (.tup (cutD x lo hi)) := ⟨rfl⟩
theorem wpG {xp : ExP} {α : Type} {r : R α} {P : α → Sto → Prop} (h : @wp xp α r P) : @wp xp α r P := h
theorem wsG {xp : ExP} {r : RS} {P : Fl → Ls → Sto → Prop} (h : @wps xp r P) : @wps xp r P := h
theorem exG {α : Sort _} {p : α → Prop} (h : Exists p) : Exists p := h
theorem anG {a b : Prop} (h : a ∧ b) : a ∧ b := h
end Rf
set_option Elab.async false
set_option linter.all false
set_option maxRecDepth 100000
set_option maxHeartbeats 0
namespace Rf
open PySem L2 TL
variable {xp : ExP}
theorem rngI_succ (lo : Int) (n : Nat) : rngI lo (n + 1) = .int lo :: rngI (lo + 1) n := by
  unfold rngI
  rw [List.range_succ_eq_map, List.map_cons, List.map_map]
  congr 1
  · simp
  · apply List.map_congr_left
    intro i _
    simp only [Function.comp]
    congr 1
    omega
def enF (j : Int) (ds : List D) : List D := pairI (rngI j ds.length) ds
theorem enF_cons {j : Int} {d : D} {ds : List D} : enF j (d :: ds) = .tup [.int j, d] :: enF (j + 1) ds := by
  unfold enF
  rw [List.length_cons, rngI_succ]
  rfl
theorem enI_F (ds : List D) : enI ds = enF 0 ds := rfl
section
variable {α : Type} {f g : α → D} {all : List D} {t : Tg} {b : SM} {P : Fl → Ls → Sto → Prop} {PL : List D → Sto → Prop} {tt : Ls → Sto → R Bool} {te : EM} {Lw : Ls}
theorem wps_ea (J : List α → Ls → Sto → Prop)
    (step : ∀ a as L S, J (a :: as) L S → ∃ L1, tgA t (f a) L = some L1 ∧ wps (b L1 S) fun fl L2 S2 => match fl with
      | .nx => J as L2 S2
      | .ct => J as L2 S2
      | .bk => P .nx L2 S2
      | fl => P fl L2 S2)
    (done : ∀ L S, J [] L S → P .nx L S) (as : List α) (L : Ls) (S : Sto) (h : J as L S) : wps (forL none all t b (as.map f) L S) P := by
  refine wps_for (fun ds L S => ∃ as, ds = as.map f ∧ J as L S) ?_ ?_ _ L S ⟨as, rfl, h⟩
  · rintro d ds L S ⟨as, e, h⟩
    cases as with
    | nil => cases e
    | cons a as =>
      cases e
      obtain ⟨L1, e1, w⟩ := step a as L S h
      exact ⟨L1, e1, w.mono fun fl L2 S2 q => by
        cases fl with
        | nx => exact ⟨_, rfl, q⟩
        | ct => exact ⟨_, rfl, q⟩
        | bk => exact q
        | rt d => exact q⟩
  · rintro L S ⟨as, e, h⟩
    cases as with
    | nil => exact done L S h
    | cons a as => cases e
theorem wps_en (J : Int → List α → Ls → Sto → Prop)
    (step : ∀ j a as L S, J j (a :: as) L S → ∃ L1, tgA t (.tup [.int j, f a]) L = some L1 ∧ wps (b L1 S) fun fl L2 S2 => match fl with
      | .nx => J (j + 1) as L2 S2
      | .ct => J (j + 1) as L2 S2
      | .bk => P .nx L2 S2
      | fl => P fl L2 S2)
    (done : ∀ j L S, J j [] L S → P .nx L S) (j : Int) (as : List α) (L : Ls) (S : Sto) (h : J j as L S) : wps (forL none all t b (enF j (as.map f)) L S) P := by
  refine wps_for (fun ds L S => ∃ j as, ds = enF j (as.map f) ∧ J j as L S) ?_ ?_ _ L S ⟨j, as, rfl, h⟩
  · rintro d ds L S ⟨j, as, e, h⟩
    cases as with
    | nil => cases e
    | cons a as =>
      rw [List.map_cons, enF_cons] at e
      cases e
      obtain ⟨L1, e1, w⟩ := step j a as L S h
      exact ⟨L1, e1, w.mono fun fl L2 S2 q => by
        cases fl with
        | nx => exact ⟨_, _, rfl, q⟩
        | ct => exact ⟨_, _, rfl, q⟩
        | bk => exact q
        | rt d => exact q⟩
  · rintro L S ⟨j, as, e, h⟩
    cases as with
    | nil => exact done j L S h
    | cons a as => rw [List.map_cons, enF_cons] at e; cases e
theorem wps_rng (J : Int → Nat → Ls → Sto → Prop)
    (step : ∀ j n L S, J j (n + 1) L S → ∃ L1, tgA t (.int j) L = some L1 ∧ wps (b L1 S) fun fl L2 S2 => match fl with
      | .nx => J (j + 1) n L2 S2
      | .ct => J (j + 1) n L2 S2
      | .bk => P .nx L2 S2
      | fl => P fl L2 S2)
    (done : ∀ j L S, J j 0 L S → P .nx L S) (j : Int) (n : Nat) (L : Ls) (S : Sto) (h : J j n L S) : wps (forL none all t b (rngI j n) L S) P := by
  refine wps_for (fun ds L S => ∃ j n, ds = rngI j n ∧ J j n L S) ?_ ?_ _ L S ⟨j, n, rfl, h⟩
  · rintro d ds L S ⟨j, n, e, h⟩
    cases n with
    | zero => cases e
    | succ n =>
      rw [rngI_succ] at e
      cases e
      obtain ⟨L1, e1, w⟩ := step j n L S h
      exact ⟨L1, e1, w.mono fun fl L2 S2 q => by
        cases fl with
        | nx => exact ⟨_, _, rfl, q⟩
        | ct => exact ⟨_, _, rfl, q⟩
        | bk => exact q
        | rt d => exact q⟩
  · rintro L S ⟨j, n, e, h⟩
    cases n with
    | zero => exact done j L S h
    | succ n => rw [rngI_succ] at e; cases e
theorem lc_ea (J : List α → List D → Sto → Prop)
    (step : ∀ a as acc S, J (a :: as) acc S → ∃ L1, tgA t (f a) Lw = some L1 ∧ @wp noXP _ (tt L1 S) fun b S1 => if b = true then @wp noXP _ (te L1 S1) fun y S2 => acc.length < sizeLine ∧ J as (acc ++ [y]) S2 else J as acc S1)
    (done : ∀ S acc, J [] acc S → PL acc S) (as : List α) (S : Sto) (acc : List D) (h : J as acc S) : wp (lcLoop none all t tt te Lw (as.map f) S acc) PL := by
  refine wp_lc (fun ds S acc => ∃ as, ds = as.map f ∧ J as acc S) ?_ ?_ _ S acc ⟨as, rfl, h⟩
  · rintro d ds S acc ⟨as, e, h⟩
    cases as with
    | nil => cases e
    | cons a as =>
      cases e
      obtain ⟨L1, e1, w⟩ := step a as acc S h
      refine ⟨L1, e1, w.mono fun b S1 q => ?_⟩
      split
      · rename_i hb
        rw [if_pos hb] at q
        exact q.mono fun y S2 q => ⟨q.1, _, rfl, q.2⟩
      · rename_i hb
        rw [if_neg hb] at q
        exact ⟨_, rfl, q⟩
  · rintro S acc ⟨as, e, h⟩
    cases as with
    | nil => exact done S acc h
    | cons a as => cases e
theorem lc_rng (J : Int → Nat → List D → Sto → Prop)
    (step : ∀ j n acc S, J j (n + 1) acc S → ∃ L1, tgA t (.int j) Lw = some L1 ∧ @wp noXP _ (tt L1 S) fun b S1 => if b = true then @wp noXP _ (te L1 S1) fun y S2 => acc.length < sizeLine ∧ J (j + 1) n (acc ++ [y]) S2 else J (j + 1) n acc S1)
    (done : ∀ j S acc, J j 0 acc S → PL acc S) (j : Int) (n : Nat) (S : Sto) (acc : List D) (h : J j n acc S) : wp (lcLoop none all t tt te Lw (rngI j n) S acc) PL := by
  refine wp_lc (fun ds S acc => ∃ j n, ds = rngI j n ∧ J j n acc S) ?_ ?_ _ S acc ⟨j, n, rfl, h⟩
  · rintro d ds S acc ⟨j, n, e, h⟩
    cases n with
    | zero => cases e
    | succ n =>
      rw [rngI_succ] at e
      cases e
      obtain ⟨L1, e1, w⟩ := step j n acc S h
      refine ⟨L1, e1, w.mono fun b S1 q => ?_⟩
      split
      · rename_i hb
        rw [if_pos hb] at q
        exact q.mono fun y S2 q => ⟨q.1, _, _, rfl, q.2⟩
      · rename_i hb
        rw [if_neg hb] at q
        exact ⟨_, _, rfl, q⟩
  · rintro S acc ⟨j, n, e, h⟩
    cases n with
    | zero => exact done j S acc h
    | succ n => rw [rngI_succ] at e; cases e
/-- a comprehension without effects -/
theorem lc_eq {S : Sto} (as : List α) (h : ∀ a ∈ as, ∃ L1, tgA t (f a) Lw = some L1 ∧ tt L1 S = .ok true S ∧ te L1 S = .ok (g a) S) (hz : as.length ≤ sizeLine) : lcLoop none all t tt te Lw (as.map f) S [] = .ok (as.map g) S := by
  have key : ∀ (as : List α) (acc : List D), (∀ a ∈ as, ∃ L1, tgA t (f a) Lw = some L1 ∧ tt L1 S = .ok true S ∧ te L1 S = .ok (g a) S) → acc.length + as.length ≤ sizeLine → lcLoop none all t tt te Lw (as.map f) S acc = .ok (acc ++ as.map g) S := by
    intro as
    induction as with
    | nil => intro acc _ _; rw [List.map_nil, lcLoop, ckd, List.map_nil, List.append_nil]
    | cons a as ih =>
      intro acc h hz
      obtain ⟨L1, e1, e2, e3⟩ := h a List.mem_cons_self
      rw [List.length_cons] at hz
      rw [List.map_cons, lcLoop, ckd, e1]
      dsimp only
      rw [e2]
      dsimp only [R.nox, R.bind]
      rw [if_pos rfl, e3]
      dsimp only
      rw [if_pos (by omega), ih (acc ++ [g a]) (fun x hx => h x (List.mem_cons_of_mem _ hx)) (by rw [List.length_append, List.length_singleton]; omega), List.map_cons, List.append_assoc, List.singleton_append]
  have := key as [] h (by rw [List.length_nil]; omega)
  rw [this, List.nil_append]
end
theorem wp.eq {α : Type} {r : R α} {P : α → Sto → Prop} {a : α} {S : Sto} (e : r = .ok a S) (h : P a S) : wp r P := by rw [e]; exact ⟨h⟩
theorem ok_of {r : R D} {d : D} {S : Sto} (h : @wp noXP _ r fun a S' => a = d ∧ S' = S) : r = .ok d S := by
  obtain ⟨a, S', e, rfl, rfl⟩ := h.ex
  exact e
mutual
def pl : D → Bool
  | .non => true
  | .bl _ => true
  | .int _ => true
  | .str _ => true
  | .tup ds => decide (ds.length ≤ 100000) && plL ds
  | .lst ds => decide (ds.length ≤ 100000) && plL ds
  | _ => false
def plL : List D → Bool
  | [] => true
  | d :: ds => pl d && plL ds
end
mutual
def dp : D → Nat
  | .tup ds => dpL ds + 1
  | .lst ds => dpL ds + 1
  | _ => 0
def dpL : List D → Nat
  | [] => 0
  | d :: ds => max (dp d) (dpL ds)
end
mutual
def okD : D → Bool
  | .non => true
  | .bl _ => true
  | .int _ => true
  | .str x => x.all fun c => decide (c < 0x110000)
  | .tup ds => okL ds
  | .lst ds => okL ds
  | _ => false
def okL : List D → Bool
  | [] => true
  | d :: ds => okD d && okL ds
end
theorem strOk_of {x : List Nat} (h : (x.all fun c => decide (c < 0x110000)) = true) : PyData.strOk ⟨x.toArray⟩ = true := by
  simpa [PyData.strOk] using h
mutual
theorem okD_py : ∀ d : D, okD d = true → ∃ p, toPy d = some p ∧ p.canLay0 = true ∧ p.depth = dp d
  | .non, _ => ⟨_, rfl, rfl, rfl⟩
  | .bl _, _ => ⟨_, rfl, rfl, rfl⟩
  | .int _, _ => ⟨_, rfl, rfl, rfl⟩
  | .str x, h => ⟨_, rfl, strOk_of h, rfl⟩
  | .tup ds, h => by
    obtain ⟨ps, e, c, d⟩ := okL_py ds h
    exact ⟨.tuple ps, by rw [toPy, e]; rfl, c, by rw [PyData.depth, d, dp]⟩
  | .lst ds, h => by
    obtain ⟨ps, e, c, d⟩ := okL_py ds h
    exact ⟨.list ps, by rw [toPy, e]; rfl, c, by rw [PyData.depth, d, dp]⟩
  | .obj _, h => by cases h
  | .gl _, h => by cases h
  | .ty _, h => by cases h
  | .scr _, h => by cases h
theorem okL_py : ∀ ds : List D, okL ds = true → ∃ ps, toPyL ds = some ps ∧ PyData.canLayAll0 ps = true ∧ PyData.depthAll ps = dpL ds
  | [], _ => ⟨[], rfl, rfl, rfl⟩
  | d :: ds, h => by
    rw [okL, Bool.and_eq_true] at h
    obtain ⟨p, e1, c1, d1⟩ := okD_py d h.1
    obtain ⟨ps, e2, c2, d2⟩ := okL_py ds h.2
    refine ⟨p :: ps, by rw [toPyL, e1, e2], by rw [PyData.canLayAll0, c1, c2]; rfl, by rw [PyData.depthAll, d1, d2, dpL]⟩
end
theorem okD_shp {d : D} (h : okD d = true) (hd : dp d ≤ 64) : shp d = true := by
  obtain ⟨p, e, c, q⟩ := okD_py d h
  unfold shp
  rw [e]
  show (p.canLay0 && decide (p.depth ≤ 64)) = true
  rw [c, q, decide_eq_true hd]
  rfl
theorem g_ift {A B : Prop} (h : A) : if true = true then A else B := h
theorem g_iff {A B : Prop} (h : B) : if false = true then A else B := h
end Rf
set_option Elab.async false
set_option linter.all false
set_option maxRecDepth 100000
set_option maxHeartbeats 0
namespace Rf
open PySem L2 TL
variable {xp : ExP}
section
variable {X : Cx} {W : WX} {e : Expr} {m : EM} {pos pos' : Pos}
theorem pe_ext {o : Expr} {apos : Pos} {to te : TE} (ho : PE X o to) (he : PE X e te) (hs : noStar e = true) (hsup : notSuper o = true) (hl : (apos.endLine == pos.line) = true) :
    PE X (.Call (.Attribute o "extend" apos) [e] [] pos) (tBM X.K "list" rExtend to (tCons te tNil)) :=
  pe_bm PySem.F.plainAttrs_list PySem.F.slot_list_extend PySem.F.type_list_extend mt_extend ho (pa_cons he pa_nil (star_cons hs)) (not_super hsup) (by rw [star_cons hs]; rfl) hl (star_cons hs) rfl
def sExt (i : Nat) (m : EM) : SM := fun L S => match L[i]? with
  | some (.o (.lst ds)) => (m L S).st L fun d S1 => match d with
    | .lst es => if ds.length + es.length ≤ sizeLine then .ok .nx (L.set i (.o (.lst (ds ++ es)))) S1 else .no
    | _ => .no
  | _ => .no
theorem ss_ext {i : Nat} {x : Str} {p apos : Pos} (hv : PE X (.Name x p) (tVar i)) (he : SE X W e m) (hs : noStar e = true) (hl : (apos.endLine == pos.line) = true) : SS X W (.Expr (.Call (.Attribute (.Name x p) "extend" apos) [e] [] pos) pos') (sExt i m) :=
  PS.imp (ps_expr (pe_ext hv he hs rfl hl) rfl) fun D σ H ⟨L, S, g, B, gB, f, p⟩ => by
    unfold sExt at p
    split at p
    · rename_i ds q
      obtain ⟨a, ha, oa⟩ := f.loc.own i _ q
      obtain ⟨us, hu, ru⟩ := id oa.1
      refine ⟨_, ha, .inl ⟨rfl, us, SqL.of hu⟩, L, S, g, f.loc, f.wf, st_e f p fun d S1 v H1 g1 f1 e1 r p1 => ?_⟩
      obtain ⟨us1, hu1, ru1⟩ := (oa.ext e1).1
      cases d with
      | lst es =>
        dsimp only at p1
        by_cases hz : ds.length + es.length ≤ sizeLine
        · rw [if_pos hz] at p1
          obtain ⟨b, zs, rfl, hF, hb, rb⟩ := r
          obtain ⟨f2, pe⟩ := f1.chg q ha (ru1.append rb)
          exact ⟨a, b, us1, zs, rfl, rfl, hu1, hb, by rw [ru1.length, rb.length]; exact hz, p1 σ _ g1 f2 pe⟩
        · rw [if_neg hz] at p1; exact p1.elim
      | _ => exact p1.elim
    · exact p.elim
def jsL : List EM → List Nat → EM
  | [], acc => fun _ S => .ok (.str acc) S
  | m :: ms, acc => fun L S => (m L S).bind fun d S1 => match d with
    | .str y => if (acc ++ y).length ≤ sizeLine then jsL ms (acc ++ y) L S1 else .no
    | _ => .no
def eJs (ms : List EM) : EM := jsL ms []
end
section
variable {X : Cx} {W : WX} {a b : Expr} {ma mb : EM} {pos : Pos}
def fCat (ma mb : EM) : Ls → Sto → R (List D) := fun L S => (ma L S).bind fun x S1 => (mb L S1).bind fun y S2 => match deref S2 x, deref S2 y with
  | .lst ds, .lst es => if ds.length + es.length ≤ sizeLine then .ok (ds ++ es) S2 else .no
  | _, _ => .no
end
section
variable {P : D → Sto → Prop} {PS : Fl → Ls → Sto → Prop} {L : Ls} {S : Sto} {m : EM} {ms : List EM} {i : Nat} {acc : List Nat}
instance : Wp (eJs ms L S) P (wp (jsL ms [] L S) P) := ⟨id⟩
instance : Wp (jsL [] acc L S) P (P (.str acc) S) := ⟨fun h => ⟨h⟩⟩
instance : Wp (jsL (m :: ms) acc L S) P (wp (m L S) fun d S1 => ∃ y, d = .str y ∧ (acc ++ y).length ≤ sizeLine ∧ wp (jsL ms (acc ++ y) L S1) P) := ⟨fun h => by
  rw [jsL, wp_bind]
  refine h.mono fun d S1 ⟨y, e, hz, h⟩ => ?_
  subst e
  dsimp only
  rw [if_pos hz]
  exact h⟩
instance : Ws (sExt i m L S) PS (∃ ds, L[i]? = some (.o (.lst ds)) ∧ wp (m L S) fun d S1 => ∃ es, d = .lst es ∧ ds.length + es.length ≤ sizeLine ∧ PS .nx (L.set i (.o (.lst (ds ++ es)))) S1) := ⟨fun ⟨ds, e, h⟩ => by
  unfold sExt
  rw [e]
  dsimp only
  rw [wps_st]
  refine h.mono fun d S1 ⟨es, e, hz, h⟩ => ?_
  subst e
  dsimp only
  rw [if_pos hz]
  exact ⟨h⟩⟩
instance {a b : EM} {PL : List D → Sto → Prop} : Wp (fCat a b L S) PL (wp (a L S) fun x S1 => wp (b L S1) fun y S2 => ∃ ds es, deref S2 x = .lst ds ∧ deref S2 y = .lst es ∧ ds.length + es.length ≤ sizeLine ∧ PL (ds ++ es) S2) := ⟨fun h => by
  unfold fCat
  rw [wp_bind]
  refine h.mono fun x S1 h => ?_
  rw [wp_bind]
  refine h.mono fun y S2 ⟨ds, es, e1, e2, hz, h⟩ => ?_
  rw [e1, e2]
  dsimp only
  rw [if_pos hz]
  exact ⟨h⟩⟩
end
end Rf
set_option Elab.async false
set_option linter.all false
set_option maxRecDepth 100000
set_option maxHeartbeats 0
namespace Rf
open PySem L2 TL
variable {xp : ExP}
section
variable {c : Ls → Sto → R Bool} {b : SM} {P : Fl → Ls → Sto → Prop}
theorem wps_whl (I : Nat → Ls → Sto → Prop)
    (step : ∀ m L S, I m L S → wp (c L S) fun t S1 => (t = true → wps (b L S1) fun fl L2 S2 => match fl with
      | .nx => ∃ m', m' < m ∧ I m' L2 S2
      | .ct => ∃ m', m' < m ∧ I m' L2 S2
      | .bk => P .nx L2 S2
      | fl => P fl L2 S2) ∧ (t = false → P .nx L S1)) {m : Nat} {L : Ls} {S : Sto} (h : I m L S) : wps (sWhl c b L S) P := by
  have key : ∀ (m : Nat) (L : Ls) (S : Sto), I m L S → ∃ n, wps (whl c b n L S) P := by
    intro m
    induction m using Nat.strongRecOn with
    | ind m ih =>
      intro L S h
      have st := step m L S h
      cases e : c L S with
      | no => rw [e] at st; exact st.out.elim
      | ex x S1 => rw [e] at st; exact ⟨1, by rw [whl, e]; exact ⟨st.out⟩⟩
      | ok t S1 =>
      rw [e] at st
      obtain ⟨h1, h2⟩ := st.out
      cases t with
      | false => exact ⟨1, by rw [whl, e]; exact ⟨h2 rfl⟩⟩
      | true =>
        have h1 := h1 rfl
        cases q : b L S1 with
        | no => rw [q] at h1; exact h1.out.elim
        | ex x L2 S2 => rw [q] at h1; exact ⟨1, by rw [whl, e]; dsimp only [R.st]; rw [if_pos rfl, q]; exact ⟨h1.out⟩⟩
        | ok fl L2 S2 =>
          rw [q] at h1
          cases fl with
          | nx =>
            obtain ⟨m', hm, hi⟩ := h1.out
            obtain ⟨n, hn⟩ := ih m' hm L2 S2 hi
            exact ⟨n + 1, by rw [whl, e]; dsimp only [R.st]; rw [if_pos rfl, q]; exact hn⟩
          | ct =>
            obtain ⟨m', hm, hi⟩ := h1.out
            obtain ⟨n, hn⟩ := ih m' hm L2 S2 hi
            exact ⟨n + 1, by rw [whl, e]; dsimp only [R.st]; rw [if_pos rfl, q]; exact hn⟩
          | bk => exact ⟨1, by rw [whl, e]; dsimp only [R.st]; rw [if_pos rfl, q]; exact ⟨h1.out⟩⟩
          | rt d => exact ⟨1, by rw [whl, e]; dsimp only [R.st]; rw [if_pos rfl, q]; exact ⟨h1.out⟩⟩
  obtain ⟨n, hn⟩ := key m L S h
  rw [sWhl_eq (n := n) (by intro e; rw [e] at hn; exact hn.out.elim)]
  exact hn
end
/-- the walker stops at a loop -/
def stopL (p : Prop) : Prop := p
theorem stopL_in {all xs : List D} {t : Tg} {b : SM} {L : Ls} {S : Sto} {PS : Fl → Ls → Sto → Prop} (h : stopL (wps (forL none all t b xs L S) PS)) : wps (forL none all t b xs L S) PS := h
end Rf
set_option Elab.async false
set_option linter.all false
set_option maxRecDepth 100000
set_option maxHeartbeats 0
namespace Rf
open PySem PySem.Spec PyProof.Rows L2 TL
open PySem.Froz (SD sObj TxOk addTx tailTx add_x add_ok is_str)
/-- the table can be walked -/
def Wk (w : World) (t : SetTable) : Prop := Ris t.place.toList ∧ (w.params.followText "set-order" = true ∨ t.led = true)
/-- the set of the texts l stands at a -/
def SetS (P : Program) (w : World) (h : Heap) (a : Addr) (l : List Str) : Prop := ∃ D : SD, h.get? a = some (sObj "set" D) ∧ TxOk P w D l ∧ l.Nodup ∧ Wk w D.2.2
section
variable {P : Program} {w : World} {h h' : Heap} {a : Addr} {l : List Str}
theorem SetS.at (r : SetS P w h a l) (k : ∀ o, h.get? a = some o → h'.get? a = some o) : SetS P w h' a l := by
  obtain ⟨D, q, z⟩ := r
  exact ⟨D, k _ q, z⟩
end
end Rf
set_option Elab.async false
set_option linter.all false
set_option maxRecDepth 100000
set_option maxHeartbeats 0
namespace Rf
open PySem PySem.Spec PyProof.Rows L2 TL
open PySem.Froz (SD sObj TxOk addTx tailTx add_x add_ok is_str)
end Rf
set_option Elab.async false
set_option linter.all false
set_option maxRecDepth 100000
set_option maxHeartbeats 0
namespace Rf
open PySem PyProof.Rows L2 TL
variable {xp : ExP}
def insU (x : List Nat) : List (List Nat) → List (List Nat)
  | [] => [x]
  | y :: ys => if x = y then y :: ys else if x < y then x :: y :: ys else y :: insU x ys
def sortU : List (List Nat) → List (List Nat)
  | [] => []
  | x :: xs => insU x (sortU xs)
def srtR (ds : List D) (S : Sto) : R (List D) := match strsD ds with
  | some xs => if xs.length < 4000 then .ok ((sortU xs).map .str) S else .no
  | none => .no
noncomputable def fSrt (mi : Ls → Sto → R Src) (own : List Nat) (t : Tg) (tt : Ls → Sto → R Bool) (te : EM) : Ls → Sto → R (List D) := fun L S =>
  (mi L S).bind fun src S1 => (lcLoop src.2 src.1 t tt te (wipeL L own) src.1 S1 []).bind srtR
theorem r_fSrt {mi : Ls → Sto → R Src} {own : List Nat} {t : Tg} {ta : Ls → Sto → R Bool} {m : EM} {L : Ls} {S : Sto} {PL : List D → Sto → Prop} (h : wp (mi L S) fun src S1 => wp (lcLoop src.2 src.1 t ta m (wipeL L own) src.1 S1 []) fun ds S2 => ∃ xs, strsD ds = some xs ∧ xs.length < 4000 ∧ PL ((sortU xs).map .str) S2) : wp (fSrt mi own t ta m L S) PL := by
  unfold fSrt
  rw [wp_bind]
  refine h.mono fun src S1 h => ?_
  rw [wp_bind]
  refine h.mono fun ds S2 ⟨xs, e, few, k⟩ => ?_
  unfold srtR
  rw [e]
  show wp (if xs.length < 4000 then _ else _) PL
  rw [if_pos few]
  exact ⟨k⟩
instance {mi : Ls → Sto → R Src} {own : List Nat} {t : Tg} {ta : Ls → Sto → R Bool} {m : EM} {L : Ls} {S : Sto} {PL : List D → Sto → Prop} : Wp (fSrt mi own t ta m L S) PL (wp (mi L S) fun src S1 => wp (lcLoop src.2 src.1 t ta m (wipeL L own) src.1 S1 []) fun ds S2 => ∃ xs, strsD ds = some xs ∧ xs.length < 4000 ∧ PL ((sortU xs).map .str) S2) := ⟨r_fSrt⟩
end Rf
set_option Elab.async false
set_option linter.all false
set_option maxRecDepth 100000
set_option maxHeartbeats 0
namespace Rf
open PySem PySem.Spec PyProof.Rows L2 TL
variable {xp : ExP}
open PySem.Froz (SD sObj TxOk addTx tailTx add_x add_ok is_str)
section
variable {P : Program} {w : World} {A : Around} {E : Value → Shared → Prop} {s : Shared}
/-- what a walk over texts lays -/
structure Has (xs : List Str) (i : Nat) (l : List Str) : Prop where
  nd : l.Nodup
  mem : ∀ k, k ∈ l ↔ k ∈ xs.take i
  len : l.length ≤ i
theorem Has.next {xs : List Str} {i : Nat} {l : List Str} {k : Str} (h : Has xs i l) (hk : xs[i]? = some k) : Has xs (i + 1) (if k ∈ l then l else k :: l) := by
  have e : xs.take (i + 1) = xs.take i ++ [k] := by rw [List.take_add_one, hk]; rfl
  by_cases c : k ∈ l
  · rw [if_pos c]
    refine ⟨h.nd, fun z => ?_, Nat.le_succ_of_le h.len⟩
    rw [e, List.mem_append, ← h.mem z]
    exact ⟨.inl, fun q => q.elim id fun q => by rw [List.mem_singleton.mp q]; exact c⟩
  · rw [if_neg c]
    refine ⟨List.nodup_cons.mpr ⟨c, h.nd⟩, fun z => ?_, Nat.succ_le_succ h.len⟩
    rw [e, List.mem_append, ← h.mem z, List.mem_singleton, List.mem_cons]
    exact or_comm
end
end Rf
set_option Elab.async false
set_option linter.all false
set_option maxRecDepth 100000
set_option maxHeartbeats 4000000
namespace Rf
open PySem L2 TL
def sRaise (c f : Str) (m : EM) : SM := fun L S => (m L S).st L fun d S1 => .ex ⟨c, [(f, d)]⟩ L S1
/-- a made one -/
structure XMade (f : Str) (h h' : Heap) (e C d : Addr) (v : Value) : Prop where
  keep : ∀ b o, h.get? b = some o → h'.get? b = some o
  new : h.objs.size ≤ e
  obj : ∃ oe vs, h'.get? e = some oe ∧ oe.cls = .ref C ∧ oe.dict = some d ∧ oe.data = .fields vs ∧ vs[1]? = some .none
  dbig : h.objs.size ≤ d
  dne : d ≠ e
  ns : h'.Ns1 d (fun y => if y = f then some v else none)
/-- what is known of a class that is raised with one field -/
structure RaiseC (P : Program) (w : World) (K : PySem.W.Frag) (mg : Str → Option Value) (c f : Str) (C : Addr) : Prop where
  gC : mg c = some (.ref C)
  kC : PySem.W.keepIn K (.ref C) = true
  exC : PySem.W.subIn K (.ref C) (.type "BaseException") = some true
  tyC : PySem.W.typeIn K (.ref C) = some (.type "type")
  made : ∀ {A : Around} {R : Result → Shared → Prop} {s : Shared} {v : Value}, K.In s.heap → s.heap.NoLimit → A.depth + 1 < recursionLimit →
    (∀ h' tk e d, XMade f s.heap h' e C d v → R (.ok (.ret (.ref e))) { s with heap := h', toks := tk }) → codeAny (model P w) A (.call (.ref C) ⟨[v], []⟩) R s
def RaiseIn (P : Program) (w : World) (K : PySem.W.Frag) (mg : Str → Option Value) (c f : Str) : Prop := ∃ C, RaiseC P w K mg c f C
theorem relO_one {v : V} {v' : Value} (f : Str) (r : RelV v v') (y : Str) : RelO (List.lookup y [(f, v)]) (if y = f then some v' else none) := by
  by_cases hw : y = f
  · subst hw
    have q : List.lookup y [(y, v)] = some v := by simp [List.lookup]
    rw [if_pos rfl, q]
    exact r
  · have q1 : (y == f) = false := by simpa using hw
    have q2 : List.lookup y [(f, v)] = none := by simp [List.lookup, q1]
    rw [if_neg hw, q2]
    trivial
section
variable {X : Cx} {C : Addr} {c f : Str}
def tMk1 (C : Addr) (f : Str) (ta : TA) : L2.St → Hp → XK → Prop := fun σ H Q => ta σ H fun vs H1 => ∃ v, vs = [v] ∧ ∀ d, H1 d = none → Q (.ref C) (some d) (upd H1 d (.xd [(f, v)]))
theorem pmk_one {a : Expr} {ta : TA} {p pos : Pos} {k : Nat} (T : RaiseC X.prog X.w X.K X.mg c f C) (hr : Room (k + 1) X.A) (ha : PA X [a] ta) (hg : Gl X c) (hdb : (c == ("__debug__" : Str)) = false)
    (he : starEach (a :: []) X.env = (false, eval a X.env) :: starEach [] X.env) (hpl : (backTo pos (starEach [] X.env)).any (·.1) = false) :
    PMk X (.Call (.Name c p) [a] [] pos) (tMk1 C f ta) := by
  intro pins s σ H Q I h
  refine wpAny_Call_Name_kw (ld_glob I hg T.gC ?_ hdb)
  refine PySem.W.callWith_K (h₀ := X.base) I.ok.mod.kin T.kC (thn (ha.run pos pins s σ H _ I h) fun us s1 hh => ?_) he hpl
  obtain ⟨vs, H1, I1, r1, v, ev, q1⟩ := hh
  subst ev
  refine ⟨I1.kIn, ?_⟩
  cases r1 with
  | cons rv rn =>
    rename_i v' us'
    cases rn
    show wpAny _ _ (call (.ref C) [v']) _ _ _
    have hlim := I1.nolimit
    obtain ⟨hp, gn, dr, tk, os⟩ := s1
    refine wpAny_call (T.made I1.kIn hlim (by have := hr.dp; omega) fun h' tk' e d M => ?_)
    show MkP X pins σ Q (.ref e) ⟨h', gn, dr, tk', os⟩
    obtain ⟨oe, fv, hoe, hc, hd, hdat, h1⟩ := M.obj
    have hns := M.ns
    obtain ⟨G', g1, g2⟩ := restrict h' fun b => decide (b ≠ e)
    have gk : ∀ b, b ≠ e → G'.get? b = h'.get? b := fun b hb => g1 b (decide_eq_true hb)
    have ge : G'.get? e = none := g2 e (by simp)
    have old : ∀ b o, hp.get? b = some o → G'.get? b = some o := fun b o q => (gk b (Nat.ne_of_lt (Nat.lt_of_lt_of_le (Heap.lt_size q) M.new))).trans (M.keep b o q)
    have ob : ObjOk X.prog X.w (upd H1 d (.xd [(f, v)])) G' d (.xd [(f, v)]) :=
      ⟨_, hns.at (fun o q => (gk d M.dne).trans q), fun y => relO_one f rv y⟩
    have J : Inv X pins σ (upd H1 d (.xd [(f, v)])) ⟨G', gn, dr, tk', os⟩ := I1.laid (t' := tk') old M.dbig ob
    refine ⟨e, oe, fv, ⟨G', gn, dr, tk', os⟩, _, .ref C, some d, rfl, J, fun b o q => ?_, ge, hoe, ⟨hc, hd⟩, hdat, h1, ?_, rfl, I1.bare, raises_own T.exC T.tyC, q1 d (I1.hok.fresh M.dbig)⟩
    · by_cases hb : b = e
      · have q' : G'.get? b = some o := q
        rw [hb, ge] at q'; cases q'
      · exact (gk b hb).symm.trans q
    · rw [upd_ne (Ne.symm M.dne)]
      exact I1.hok.fresh M.new
theorem ss_raise1 {a : Expr} {m : EM} {W : WX} {p pos pos2 : Pos} {k : Nat} (T : RaiseIn X.prog X.w X.K X.mg c f) (hc : X.calm = true) (tk : Takes X W) (hr : Room (k + 1) X.A) (ha : SE X W a m) (hs : noStar a = true) (hg : Gl X c) (hdb : (c == ("__debug__" : Str)) = false) :
    SS X W (.Raise (some (.Call (.Name c p) [a] [] pos)) none pos2) (sRaise c f m) := by
  obtain ⟨C, T⟩ := T
  refine PS.imp (ps_raise hc tk (pmk_one (ta := tCons (tE (kx X) W m) tNil) T hr (pa_cons ha pa_nil (star_cons hs)) hg hdb (star_cons hs) rfl)) fun D σ H ⟨L, S, g, B, gB, fr, p⟩ => ?_
  refine ⟨L, S, g, fr.loc, fr.wf, st_e fr p fun d S1 v H1 g1 f1 e1 r p1 => ⟨v, rfl, fun dd hd => ?_⟩⟩
  refine p1 (.ref C) (some dd) σ _ (g1.frz dd) (f1.ext (Ext.newFrz hd) (f1.wf.newFrz hd)) (Ext.newFrz hd).toPExt ⟨C, T.gC, rfl, fun y e q => ?_⟩
  have q' : List.lookup y [(f, d)] = some e := q
  rw [List.lookup_cons] at q'
  cases z : (y == f) with
  | false => rw [z] at q'; cases q'
  | true =>
    rw [z] at q'
    have ed : d = e := by simpa using q'
    subst ed
    exact ⟨dd, _, v, rfl, .inl rfl, upd_same, by rw [List.lookup_cons, z], r.mono (Ext.newFrz hd).toPExt _ _⟩
end
def noX (L : Ls) : Bool := L.all fun
  | .exc _ => false
  | _ => true
theorem noX_no {L : Ls} (h : noX L = true) {i : Nat} {x : Exn} : L[i]? ≠ some (.exc x) := fun q => by
  have z := List.all_eq_true.mp h _ (List.mem_of_getElem? q)
  cases z
abbrev IsT := Str → Option Bool
/-- which classes the clause's class takes -/
def IsK (K : PySem.W.Frag) (mg : Str → Option Value) (cv : Value) (is : IsT) : Prop := ∀ c b, is c = some b → ∃ C, mg c = some (.ref C) ∧ PySem.W.exmOne K (.ref C) cv = some b
def suR (i : Nat) : RS → RS
  | .ok f L2 S2 => if noX (L2.set i .un) = true then .ok f (L2.set i .un) S2 else .no
  | _ => .no
def sTry (is : IsT) (i : Nat) (b su : SM) : SM := fun L S => match b L S with
  | .ex x L1 S1 => match is x.cls with
    | some true => suR i (su (L1.set i (.exc x)) S1)
    | some false => .ex x L1 S1
    | none => .no
  | r => r
theorem LocRel.kc {k k' : Kx} {σ : L2.St} {L : Ls} {H : Hp} {g : G} (h1 : k'.K = k.K) (h2 : k'.mg = k.mg) (h3 : k'.w = k.w) (l : LocRel k σ L H g) (hx : ∀ (i : Nat) (x : Exn), L[i]? ≠ some (.exc x)) : LocRel k' σ L H g where
  len := l.len
  val := fun i d q => by
    obtain ⟨v, a, b⟩ := l.val i d q
    exact ⟨v, a, Rep.kc h1 h2 _ _ b⟩
  own := fun i o q => by
    obtain ⟨a, b, c⟩ := l.own i o q
    exact ⟨a, b, c.1.kc h1 h2 h3, c.2⟩
  sep := l.sep
  exc := fun i x q => absurd q (hx i x)
theorem Fr.kc {k k' : Kx} {B : Hp} {gB : G} {σ : L2.St} {L : Ls} {H : Hp} {g : G} {S : Sto} (h1 : k'.K = k.K) (h2 : k'.mg = k.mg) (h3 : k'.w = k.w) (f : Fr k B gB σ L H g S) (hx : ∀ (i : Nat) (x : Exn), L[i]? ≠ some (.exc x)) : Fr k' B gB σ L H g S :=
  ⟨f.loc.kc h1 h2 h3 hx, f.wf.kc h1 h2 h3, f.base, f.new⟩
/-- a slot is given something that is no value -/
theorem Fr.lay {k : Kx} {B : Hp} {gB : G} {σ : L2.St} {L : Ls} {H : Hp} {g : G} {S : Sto} {i : Nat} {ov : Option V} {lv : LV} (f : Fr k B gB σ L H g S) (n1 : ∀ d, lv ≠ .v d) (n2 : ∀ o, lv ≠ .o o)
    (hx : ∀ x, lv = .exc x → i < L.length → ∃ a oe, k.cur = some (a, oe) ∧ ov = some (.ref a) ∧ XRep k H g x oe.cls oe.dict) : Fr k B gB (σ.set i ov) (L.set i lv) H g S := by
  have key : ∀ {j : Nat} {u : LV}, (L.set i lv)[j]? = some u → (i = j ∧ u = lv ∧ i < L.length) ∨ (i ≠ j ∧ L[j]? = some u) := fun {j u} q => by
    by_cases hj : i = j
    · subst hj
      by_cases hl : i < L.length
      · rw [List.getElem?_set_self hl] at q
        exact .inl ⟨rfl, (Option.some.inj q).symm, hl⟩
      · rw [List.getElem?_eq_none (by rw [List.length_set]; omega)] at q; cases q
    · rw [List.getElem?_set_ne hj] at q
      exact .inr ⟨hj, q⟩
  have ownK : ∀ {j : Nat} {o : O}, (L.set i lv)[j]? = some (.o o) → i ≠ j ∧ L[j]? = some (.o o) := fun {j o} q => by
    rcases key q with ⟨_, e, _⟩ | z
    · exact absurd e.symm (n2 o)
    · exact z
  refine ⟨⟨by rw [List.length_set, List.length_set, f.loc.len], fun j d q => ?_, fun j o q => ?_, fun j l u w b hj hl pj pl => ?_, fun j x q => ?_⟩, f.wf, f.base, fun j o a q q' => ?_⟩
  · rcases key q with ⟨_, e, _⟩ | ⟨hj, q⟩
    · exact absurd e.symm (n1 d)
    · rw [List.getElem?_set_ne hj]
      exact f.loc.val j d q
  · obtain ⟨hj, q⟩ := ownK q
    rw [List.getElem?_set_ne hj]
    exact f.loc.own j o q
  · obtain ⟨ij, hj⟩ := ownK hj
    obtain ⟨il, hl⟩ := ownK hl
    rw [List.getElem?_set_ne ij] at pj
    rw [List.getElem?_set_ne il] at pl
    exact f.loc.sep j l u w b hj hl pj pl
  · rcases key q with ⟨hj, e, hl⟩ | ⟨hj, q⟩
    · subst hj
      obtain ⟨a, oe, c1, c2, c3⟩ := hx x e.symm hl
      exact ⟨a, oe, c1, by rw [List.getElem?_set_self (by rw [f.loc.len]; exact hl), c2], c3⟩
    · rw [List.getElem?_set_ne hj]
      exact f.loc.exc j x q
  · obtain ⟨hj, q⟩ := ownK q
    rw [List.getElem?_set_ne hj] at q'
    exact f.new j o a q q'
/-- the suite's wish, whatever object the exception is -/
def tSu (X : Cx) (su : SM) : Addr → Value → Option Addr → TS := fun a cls d D σ H => ∀ oe : Obj, Zc cls d oe → tS ⟨X.K, X.mg, some (a, oe), X.w⟩ WN su D σ H
section
variable {X : Cx} {W : WX} {x n : Str} {cv : Value} {i : Nat} {body suite : List Stmt} {b₀ : Stmt} {np pos pos' : Pos} {is : IsT} {b su : SM}
theorem tr_k (hc : X.calm = true) {pn : List (Addr × Obj)} {xe : Value → Shared → Prop} : kx (X.tr pn xe) = kx X := by rw [kx_calm hc, kx_calm (X := X.tr pn xe) hc]
theorem ss_try (hc : X.calm = true) (hs : X.stack = X.env :: X.outer) (hf : X.env.frame = some X.env.locals) (hN : X.N.Nodup) (hi : X.N[i]? = some n) (hln : X.env.kindOf n = some .local) (hcn : Names X x cv) (hk : IsK X.K X.mg cv is) (tk : Takes X W)
    (hb : ∀ (W : WX) (pn : List (Addr × Obj)) (xe : Value → Shared → Prop), Takes (X.tr pn xe) W → PassesOwn (model X.prog X.w) X.A X.env xe → SB (X.tr pn xe) W body b)
    (hsu : ∀ (a : Addr) (oe : Obj) (pn : List (Addr × Obj)), (∃ vs, oe.data = .fields vs) → SB (X.suite a ((a, oe) :: pn)) WN (b₀ :: suite) su) :
    SS X W (.Try body [.ExceptHandler (some (.Name x np)) (some n) (b₀ :: suite) pos'] [] [] pos) (sTry is i b su) := by
  refine PS.imp (ps_try_as (tb := fun W => tS (kx X) W b) (ts := tSu X su) hs hf hN hi hln hcn tk (fun W pn xe tk' pss => ?_) (fun a oe cls d pn hz hv => ?_)) fun D σ H ⟨L, S, g, B, gB, f, p⟩ => ⟨L, S, g, B, gB, f, ?_⟩
  · have h := hb W pn xe tk' pss
    have e : tS (kx (X.tr pn xe)) W b = tS (kx X) W b := by rw [tr_k hc]
    rw [← e]
    exact h
  · exact PSs.imp (hsu a oe pn hv) fun D σ H h => h oe hz
  · unfold sTry at p
    cases q : b L S with
    | no => rw [q] at p; exact p
    | ok fl L1 S1 => rw [q] at p; exact p
    | ex z L1 S1 =>
      rw [q] at p
      intro c d σ' H' g' f' e' xr
      cases q2 : is z.cls with
      | none => simp only [q2] at p; exact p.elim
      | some bb =>
        obtain ⟨C, m1, m2⟩ := hk _ _ q2
        obtain ⟨C', m3, m4, m5⟩ := id xr
        have m3' : X.mg z.cls = some (.ref C') := m3
        rw [m1] at m3'
        cases m3'
        subst m4
        refine ⟨bb, m2, fun hbb a ha oe hz => ?_, fun hbb => ?_⟩
        · subst hbb
          simp only [q2] at p
          have nx : ∀ (j : Nat) (y : Exn), L1[j]? ≠ some (.exc y) := fun j y qq => by
            obtain ⟨a', oe', c1, _⟩ := f'.loc.exc j y qq
            rw [kx_calm hc] at c1
            cases c1
          have f2 := (Fr.kc (k := kx X) (k' := ⟨X.K, X.mg, some (a, oe), X.w⟩) rfl rfl rfl f' nx).lay (i := i) (ov := some (V.ref a)) (lv := .exc z) nofun nofun fun y ey _ => by
            cases ey
            exact ⟨a, oe, rfl, rfl, by rw [hz.1, hz.2]; exact XRep.kc (k := kx X) (k' := ⟨X.K, X.mg, some (a, oe), X.w⟩) rfl rfl xr⟩
          refine ⟨_, S1, g', B, gB, f2, ?_⟩
          unfold suR at p
          cases q3 : su (L1.set i (.exc z)) S1 with
          | no => rw [q3] at p; exact p.elim
          | ex y L2 S2 => rw [q3] at p; exact p.elim
          | ok fl L2 S2 =>
            rw [q3] at p
            by_cases hn : noX (L2.set i .un) = true
            · simp only [hn, if_true] at p
              intro σ2 H2 g2 f3 e3
              have f4 : Fr (kx X) B gB (σ2.set i none) (L2.set i .un) H2 g2 S2 := Fr.kc (k := ⟨X.K, X.mg, some (a, oe), X.w⟩) (k' := kx X) rfl rfl rfl (f3.lay (i := i) (ov := none) (lv := .un) nofun nofun nofun) fun j y => noX_no hn
              have e := p _ _ _ f4 (e'.trans e3)
              cases fl with
              | nx => exact e
              | bk => exact e
              | ct => exact e
              | rt dd => exact fun v r => e v (Rep.kc (k := ⟨X.K, X.mg, some (a, oe), X.w⟩) (k' := kx X) rfl rfl _ _ r)
            · simp only [hn, if_false] at p
              exact p.elim
        · subst hbb
          simp only [q2] at p
          exact p _ d σ' H' g' f' e' xr
end
end Rf
set_option Elab.async false
set_option linter.all false
set_option maxRecDepth 100000
set_option maxHeartbeats 4000000
namespace Rf
open PySem L2 TL
def okO (a b : Option (Option Value)) : Bool := decide (a = b)
theorem okO_ok {a b : Option (Option Value)} (h : okO a b = true) : a = b := of_decide_eq_true h
theorem b2 {a b : Bool} (h : (a && b) = true) : a = true ∧ b = true := Bool.and_eq_true_iff.mp h
/-- a class of exceptions with dicts -/
def excB (K : PySem.W.Frag) (C : Addr) : Bool :=
  okO (PySem.W.findIn K (.ref C) "__getattribute__") (some (some (.builtin "BaseException.__getattribute__"))) && (okO (PySem.W.findIn K (.ref C) "__getattr__") (some none) &&
  (decide (PySem.W.subIn K (.ref C) (.type "BaseException") = some true) && (PySem.W.hasDictIn K C &&
  (okO (PySem.W.findIn K (.ref C) "__class__") (some (some (.builtin "object.__class__"))) && (okO (PySem.W.specialIn K (.builtin "object.__class__") "__get__") (some (some (.builtin "getset_descriptor.__get__"))) &&
  (decide (PySem.W.takesIn K (.builtin "object.__class__") = some true) && (decide (PySem.W.mroIn K C (.type "object") = some true) && decide (PySem.W.typeIn K (.ref C) = some (.type "type")))))))))
structure ExcAt (K : PySem.W.Frag) (C : Addr) : Prop extends L2.ExcC K C where
  xf : L2.XfC K C
  ty : PySem.W.typeIn K (.ref C) = some (.type "type")
theorem excB_ok {K : PySem.W.Frag} {C : Addr} (h : excB K C = true) : ExcAt K C := by
  obtain ⟨h1, h⟩ := b2 h
  obtain ⟨h2, h⟩ := b2 h
  obtain ⟨h3, h⟩ := b2 h
  obtain ⟨h4, h⟩ := b2 h
  obtain ⟨h5, h⟩ := b2 h
  obtain ⟨h6, h⟩ := b2 h
  obtain ⟨h7, h⟩ := b2 h
  obtain ⟨h8, h9⟩ := b2 h
  exact { hg := okO_ok h1, hk := okO_ok h2, hs := of_decide_eq_true h3, hd := h4, ha := okO_ok h5, hn := okO_ok h6, ht := of_decide_eq_true h7, hm := of_decide_eq_true h8, xf := ⟨okO_ok h1, okO_ok h2, of_decide_eq_true h3, h4⟩, ty := of_decide_eq_true h9 }
def clsB (K : PySem.W.Frag) (c : Str) (fs : List Str) : Bool := okO (PySem.W.nsIn K mainGlobals c) (some (some (.ref (He.ga K c)))) && (excB K (He.ga K c) && fs.all fun f => okO (PySem.W.findIn K (.ref (He.ga K c)) f) (some none))
/-- the name c stands for such a class; its instances' own fields fs are read off them -/
def ClsAt (K : PySem.W.Frag) (mg : Str → Option Value) (c : Str) (fs : List Str) : Prop := mg c = some (.ref (He.ga K c)) ∧ ExcAt K (He.ga K c) ∧ ∀ f ∈ fs, PySem.W.findIn K (.ref (He.ga K c)) f = some none
theorem clsB_ok {K : PySem.W.Frag} {h : Heap} {mg : Str → Option Value} (X : K.In h) (G : h.Ns mainGlobals mg) {c : Str} {fs : List Str} (q : clsB K c fs = true) : ClsAt K mg c fs := by
  obtain ⟨h1, q⟩ := b2 q
  obtain ⟨h2, h3⟩ := b2 q
  exact ⟨PySem.W.mg_of X G (okO_ok h1), excB_ok h2, fun f hf => okO_ok (List.all_eq_true.mp h3 f hf)⟩
/-- how the class object and its maker stand -/
def rsB (K : PySem.W.Frag) (C fI : Addr) : Bool := (match K.lookup C with
  | some ⟨.type "type", _, .cls cd, sl⟩ => (match cd.mro, sl.toList with
    | .ref C' :: bm, [_, _, _, _, some (.builtin n), _] => C' == C && (n == "ValueError.__new__" && (!cd.hasDel && (cd.hasDict && PySem.HandSPX.refsVE bm)))
    | _, _ => false)
  | _ => false) && (okO (PySem.W.findIn K (.ref C) "__setattr__") (some (some (.builtin "object.__setattr__"))) && (okO (PySem.W.findIn K (.ref C) "__init__") (some (some (.ref fI))) && (decide (PySem.W.typeIn K (.ref fI) = some (.type "function")) && PySem.W.keepIn K (.ref C))))
structure RsAt (K : PySem.W.Frag) (C fI : Addr) : Prop where
  cls : ∃ nm q N bs bm sn sub ab col dd k0 k1 k2 k3 k5, K.lookup C = some (excClassObj nm q C N bs bm true sn sub ab col dd k0 k1 k2 k3 k5 "ValueError.__new__") ∧ PySem.HandSPX.refsVE bm = true
  sa : PySem.W.findIn K (.ref C) "__setattr__" = some (some (.builtin "object.__setattr__"))
  iC : PySem.W.findIn K (.ref C) "__init__" = some (some (.ref fI))
  tC : PySem.W.typeIn K (.ref fI) = some (.type "function")
  kC : PySem.W.keepIn K (.ref C) = true
theorem rsB_ok {K : PySem.W.Frag} {C fI : Addr} (h : rsB K C fI = true) : RsAt K C fI := by
  obtain ⟨h1, h⟩ := b2 h
  obtain ⟨h2, h⟩ := b2 h
  obtain ⟨h3, h⟩ := b2 h
  obtain ⟨h4, h5⟩ := b2 h
  refine ⟨?_, okO_ok h2, okO_ok h3, of_decide_eq_true h4, h5⟩
  split at h1
  · rename_i dd cd sl ho
    split at h1
    · rename_i C' bm k0 k1 k2 k3 n k5 hm hs
      obtain ⟨e1, h1⟩ := b2 h1
      obtain ⟨e2, h1⟩ := b2 h1
      obtain ⟨e3, h1⟩ := b2 h1
      obtain ⟨e4, e5⟩ := b2 h1
      have e1 := beq_iff_eq.mp e1
      have e2 := beq_iff_eq.mp e2
      subst e1 e2
      obtain ⟨nm, bs, mro, ns, qn, hd, sn, sub, ab, col, del⟩ := cd
      dsimp only at hm e3 e4
      subst hm e4
      have e3 : del = false := by simpa using e3
      subst e3
      have hsl : sl = #[k0, k1, k2, k3, some (.builtin "ValueError.__new__"), k5] := by
        obtain ⟨l⟩ := sl
        simp only at hs
        rw [hs]
      subst hsl
      exact ⟨nm, qn, ns, bs, bm, sn, sub, ab, col, dd, k0, k1, k2, k3, k5, ho, e5⟩
    · cases h1
  · cases h1
end Rf
set_option Elab.async false
set_option linter.all false
set_option maxRecDepth 100000
set_option maxHeartbeats 4000000
namespace Rf
open PySem PySem.W PySem.Calls PyProof.Rows PySem.HandSPX
def xiA (f : Str) (p1 p2 : Pos) : Arguments := { posonlyargs := [], args := [{ arg := "self", annotation := none, pos := p1 }, { arg := f, annotation := none, pos := p2 }], vararg := none, kwonlyargs := [], kw_defaults := [], kwarg := none, defaults := [] }
def xiB (f : Str) (q1 q2 q3 q4 : Pos) : List Stmt := [.Assign [.Attribute (.Name "self" q1) f q2] (.Name f q3) q4]
def xiS (f : Str) : Scope := { kind := .function, names := [(PySem.Str.ofString "self", .local), (f, .local)], isGenerator := false, isCoroutine := false, more := [] }
theorem xone_size (v : Value) : [v].length ≤ sizeLine := by
  rw [sizeLine_eq]
  exact (by decide : 1 ≤ 16777216)
theorem xldC {M : Model} {s : Shared} {name : Str} {scope : Scope} {L a : Addr} {cd : Value} {m : Str → Option Value} {x : Str} {pos : Pos} {v : Value} {Q : Value → Shared → Prop} {A : Around} {E : Value → Shared → Prop}
    (hn : s.heap.Ns L m) (hv : m x = some v) (h : Q v s) (hk : scope.kind = .function := by rfl) (hl : (envOfC name scope L a cd).kindOf x = some .local := by rfl) (hd : (x == ("__debug__" : Str)) = false := by decide) :
    wpAny M A (eval (.Name x pos) (envOfC name scope L a cd)) Q E s := wpAny_Name (wpAny_loadName_local hk hl hn hv h) hd
/-- what the maker leaves of a fresh exception at x -/
structure XInit (f : Str) (h h' : Heap) (x C dx t1 : Addr) (v : Value) : Prop where
  keep : ∀ b o, b ≠ x → h.get? b = some o → h'.get? b = some o
  obj : h'.get? x = some { cls := .ref C, dict := some dx, data := .fields #[.ref t1, .none, .none, .none, .bool false, .none] }
  dbig : h.objs.size ≤ dx
  dne : dx ≠ x
  ns : h'.Ns1 dx (fun y => if y = f then some v else none)
section
variable {prog : Program} {w : World} {A : Around} {R : Result → Shared → Prop} {s : Shared} {K : Frag} {mg : Str → Option Value} {C fI : Addr} {fd : FuncData} {p1 p2 q1 q2 q3 q4 : Pos}
theorem mi_Clash (T : RsAt K C fI) (noN : findIn K (.ref C) "steps" = some none) (F : L2.FunD K "__init__" "Clash.__init__" (xiA "steps" p1 p2) (xiB "steps" q1 q2 q3 q4) (xiS "steps") [] [] fI fd) {x t0 : Addr} {v : Value}
    (X : K.In s.heap) (hlim : s.heap.NoLimit) (hx : s.heap.get? x = some (excO C t0)) (hnx : K.lookup x = none) (hroom : A.depth < recursionLimit)
    (hq : ∀ h' tk dx, XInit "steps" s.heap h' x C dx t0 v → R (.ok (.ret .none)) { s with heap := h', toks := tk }) :
    codeAny (model prog w) A (.call (.ref fI) ⟨[.ref x, v], []⟩) R s := by
  have hb := F.bindsN (ps := ["self", "steps"]) (fun _ _ _ _ _ _ us hl => match us, hl with | [_, _], _ => rfl) s [.ref x, v] X rfl
  obtain ⟨oc, od, dV, kV, doc, pm, an, cdv, ct, osl, rfl, ho, hcd, _, _⟩ := F.ex
  obtain ⟨nm, q, N, bs, bm, sn, sub, ab, col, dd, k0, k1, k2, k3, k5, hC, hbm⟩ := T.cls
  have hcl : clsIn K C = some { name := nm, bases := bs, mro := .ref C :: bm, ns := N, qualname := q, hasDict := true, slotNames := sn, subclasses := sub, abstract := ab, collection := col, hasDel := false } := by unfold clsIn; rw [hC] <;> rfl
  refine Att.call_fn (binds := [("self", .ref x), ("steps", v)]) X hlim ho hcd hroom hb (by first | rfl | decide | with_unfolding_all rfl) (fun s₁ IC => ?_) rfl rfl rfl
  obtain ⟨h₁, tk₁, rfl⟩ := IC.toInCall.same
  have k : ∀ b o, s.heap.get? b = some o → h₁.get? b = some o := IC.toInCall.keep
  have hn := IC.toInCall.ns
  have X₁ : K.In h₁ := X.keeps k
  have hx₁ := k _ _ hx
  show wpAny _ _ (execs _ _) _ _ _
  refine wpAny_execs_cons (plainObj_wpAny_Assign_Attribute ?_)
  refine xldC (v := v) hn (by first | rfl | with_unfolding_all rfl | kernel_rfl) (xldC (v := .ref x) hn (by first | rfl | with_unfolding_all rfl | kernel_rfl) ?_)
  refine set_plain X₁ (ox := excO C t0) (od := none) ⟨hx₁, rfl, rfl, trivial⟩ T.sa ?_
  refine exc_osa X₁ hx₁ hcl (show refsVE (.ref C :: bm) = true from hbm) rfl noN (fun h₃ tk₃ dx k₃ dn dne hx₃ hn₃ => ?_)
  show wpAny _ _ (execs _ _) _ _ _
  have z : s.heap.objs.size < h₁.objs.size := hn.lt
  exact wpAny_execs_nil (hq h₃ tk₃ dx ⟨fun b o hb e => k₃ b o hb (k b o e), hx₃, Nat.le_of_lt (Nat.lt_of_lt_of_le z dn), dne, hn₃⟩)
theorem mk_Clash (T : RsAt K C fI) (noN : findIn K (.ref C) "steps" = some none) (F : L2.FunD K "__init__" "Clash.__init__" (xiA "steps" p1 p2) (xiB "steps" q1 q2 q3 q4) (xiS "steps") [] [] fI fd) {v : Value} (X : K.In s.heap) (hlim : s.heap.NoLimit) (hroom : A.depth + 1 < recursionLimit)
    (hq : ∀ h' tk e d, XMade "steps" s.heap h' e C d v → R (.ok (.ret (.ref e))) { s with heap := h', toks := tk }) :
    codeAny (model prog w) A (.call (.ref C) ⟨[v], []⟩) R s := by
  obtain ⟨nm, q, N, bs, bm, sn, sub, ab, col, dd, k0, k1, k2, k3, k5, hC, hbm⟩ := T.cls
  obtain ⟨hp, g, dr, tk, os⟩ := s
  have k : ∀ b o, hp.get? b = some o → ((hp.push (kdv_tup [v])).push (excO C hp.objs.size)).get? b = some o := fun b o e => Heap.get?_push_of_some _ (Heap.get?_push_of_some _ e)
  have hget : ((hp.push (kdv_tup [v])).push (excO C hp.objs.size)).get? (hp.objs.size + 1) = some (excO C hp.objs.size) := by heap_get
  have hnx : K.lookup (hp.objs.size + 1) = none := by
    cases e : K.lookup (hp.objs.size + 1) with
    | none => rfl
    | some o =>
      have z : hp.get? (hp.objs.size + 1) = some o := X _ _ e
      exact absurd (Nat.lt_of_succ_lt (Heap.lt_size z)) (Nat.lt_irrefl _)
  refine call_own PySem.F.excBase_ValueError (fun X => refsVE_contains X bm hbm) (X _ _ hC) (looks_findIn X T.iC) (fun self => bind_fn X self T.tC) (xone_size v) ?_
  refine mi_Clash (s := ⟨(hp.push (kdv_tup [v])).push (excO C hp.objs.size), g, dr, tk, os⟩) T noN F (X.keeps k) (hlim.keeps k) hget hnx ?_ fun h' tk' dx ⟨k', hx, dn, dne, hns⟩ => ?_
  · show A.depth + 1 < recursionLimit
    exact hroom
  · have old : ∀ b o, hp.get? b = some o → h'.get? b = some o := fun b o e => k' b o (Nat.ne_of_lt (Nat.lt_succ_of_lt (Heap.lt_size e))) (k b o e)
    have z : hp.objs.size + 1 + 1 ≤ dx := by
      first
        | (simpa only [Heap.size_push] using dn)
        | exact dn
        | (have q := dn; rw [Heap.size_push, Heap.size_push] at q; exact q)
    exact ⟨rfl, hq h' tk' (hp.objs.size + 1) dx ⟨old, Nat.le_succ _, ⟨_, _, hx, rfl, rfl, rfl, rfl⟩, Nat.le_trans (Nat.le_trans (Nat.le_succ _) (Nat.le_succ _)) z, dne, hns⟩⟩
theorem rs_Clash (c : ClsAt K mg "Clash" ["steps"]) (T : RsAt K (He.ga K "Clash") fI) (F : L2.FunD K "__init__" "Clash.__init__" (xiA "steps" p1 p2) (xiB "steps" q1 q2 q3 q4) (xiS "steps") [] [] fI fd) : RaiseIn prog w K mg "Clash" "steps" :=
  ⟨_, c.1, T.kC, c.2.1.hs, c.2.1.ty, fun X hl hr hq => mk_Clash T (c.2.2 _ (List.mem_singleton.mpr rfl)) F X hl hr hq⟩
end
end Rf
set_option Elab.async false
set_option linter.all false
set_option maxRecDepth 100000
set_option maxHeartbeats 4000000
namespace PySem.W
open PySem PySem.Spec PySem.Calls PyProof.Rows
section
variable {prog : Program} {w : World} {A : Around} {E : Value → Shared → Prop} {s : Shared} {K : Frag} {x D : Addr} {ox : Obj} {od : Option Obj}
theorem xfind {C : Addr} {name : Str} {a g : Value} (hc : hasDictIn K C = true) (ha : findIn K (.ref C) name = some (some a)) (hg : specialIn K a "__get__" = some (some g)) (ht : takesIn K a = some true) : findObj K C od name = some (.bind g a) := by
  obtain ⟨cd, hcd, _⟩ := any_some hc
  unfold findObj
  rw [hcd, Option.bind_some, ha, Option.bind_some]; simp [hg, ht]
theorem xclass {Q : Option Value → Shared → Prop} (C : L2.ExcC K D) (X : K.In s.heap) (I : InstAt s.heap x ox D od) (h : Q (some (.ref D)) { s with toks := s.toks + 1 }) : wpAny (model prog w) A (getAttr? (.ref x) "__class__") Q E s := by
  have fo : findObj K D od "__class__" = some (.bind (.builtin "getset_descriptor.__get__") (.builtin "object.__class__")) := xfind C.hd C.ha C.hn C.ht
  obtain ⟨hp, gn, dr, tk, os⟩ := s
  have l0 := I.type (M := model prog w)
  have l1 := looks_findIn (M := model prog w) X C.hg
  have l2 := looks_findIn (M := model prog w) X C.hk
  have l3 := looks_find (M := model prog w) X I fo
  have sb : Looks (model prog w) hp (isInstance (.ref x) (.type "BaseException")) true := l0.andThen (looks_subIn X C.hs)
  have n0 : (false && onTheHeap (Value.builtin "BaseException.__getattribute__")) = false := rfl
  have n1 : (onTheHeap (Value.ref D) && Value.builtin "BaseException.__getattribute__" == Value.builtin "object.__getattribute__") = false := by
    rw [show (Value.builtin "BaseException.__getattribute__" == Value.builtin "object.__getattribute__") = false by decide +kernel]; rfl
  unfold getAttr? getAttrBy? getAttrBy; refine wpAny_bind (wpAny_mkText (wpAny_bind (wpAny_attempt (wpAny_holding (wpAny_bind (l0.at (wpAny_bind (l1.at ?_))))))))
  show wpAny _ _ (if (onTheHeap (Value.ref D) && Value.builtin "BaseException.__getattribute__" == Value.builtin "object.__getattribute__") = true then _ else _) _ _ _
  rw [n1, if_neg Bool.false_ne_true]; unfold getAttrByItsOwn hookBefore
  refine wpAny_bind ?_; rw [if_pos (show onTheHeap (Value.ref D) = true from rfl)]
  refine l2.at ?_; refine wpAny_bind (wpAny_attempt (wpAny_holding ?_)); unfold callGetattribute
  rw [n0, if_neg Bool.false_ne_true]; unfold boundAndCalled; rw [PySem.F.excAttr_ValueError.ga.bind (.ref x)]
  refine wpAny_bind (wpAny_pure ?_); show wpAny _ _ (call (.builtin "BaseException.__getattribute__") [.ref x, .str "__class__" tk]) _ _ _
  refine wpAny_call (codeAny_call_builtin PySem.F.excAttr_ValueError.ga.plain PySem.F.entry_bexc_ga ?_)
  refine @check_slot (model prog w) _ _ ⟨hp, gn, dr, tk + 1, os⟩ "BaseException.__getattribute__" "BaseException" "__getattribute__" (.ref x) [.str "__class__" tk] [] _ (by decide +kernel) (by decide +kernel) sb (PySem.F.args_bexc_ga (.ref x) (.str "__class__" tk)) ?_
  unfold Builtin.«object.__getattribute__»; refine wpAny_bind (wpAny_of_eq (a := ((Value.ref x : Value), [Value.str "__class__" tk])) (by first | rfl | (simp only [slotArgs]; rfl)) ?_)
  refine wpAny_bind (wpAny_pure (wpAny_bind (l0.at (wpAny_bind (l3.at ?_)))))
  show wpAny _ _ (holding [Value.builtin "object.__class__"] (call (.builtin "getset_descriptor.__get__") [.builtin "object.__class__", .ref x, .ref D]) >>= ret) _ _ _
  refine wpAny_bind (wpAny_holding (wpAny_call (class_get (s := ⟨hp, gn, dr, tk + 1, os⟩) (ox := ox) (od := od) X I C.hm ?_)))
  refine wpAny_pure ?_; show wpAny _ _ (handedOut (.ref D)) _ _ _; rw [handedOut_of (v := .ref D) rfl]
  first
    | exact wpAny_pure (wpAny_pure h)
    | exact wpAny_pure h
    | exact wpAny_pure (wpAny_bind (wpAny_pure (wpAny_pure h)))
theorem xkit (C : L2.ExcC K D) : KitX K (.ref x) (.ref D) (fun h => InstAt h x ox D od) where
  ty := fun _ _ _ I => I.type
  it := fun _ _ X _ => by
    obtain ⟨cd, hcd, _⟩ := any_some C.hd
    unfold clsIn at hcd
    split at hcd
    · rename_i ho
      intro A' Q' E' s' k q
      unfold isType loadHead
      exact wpAny_bind (wpAny_loadPart (k _ _ (X _ _ ho)) (wpAny_pure q))
    · cases hcd
  ne := fun h tp dd its n sl X htp => by
    obtain ⟨cd, hcd, _⟩ := any_some C.hd
    refine Bool.eq_false_iff.mpr fun q => ?_
    have e : D = tp := Value.ref.inj (beq_iff_eq.mp q)
    subst e
    unfold clsIn at hcd
    split at hcd
    · rename_i ho
      cases (X _ _ ho).symm.trans htp
    · cases hcd
  ca := fun X I k => xclass C X I k
end
end PySem.W
namespace Rf
open PySem L2 TL
theorem pe_never {X : Cx} {e : Expr} : PE X e (fun _ _ _ => False) := ⟨fun _ _ _ _ _ _ h => h.elim⟩
/-- the error's field f; cs: the classes that are known -/
def eXf (cs : Str → Bool) (i : Nat) (f : Str) : EM := fun L S => match L[i]? with
  | some (.exc x) => if cs x.cls = true then lift (x.fs.lookup f) S else .no
  | _ => .no
/-- isinstance(the error, C) -/
def eIs (t : IsT) (i : Nat) : EM := fun L S => match L[i]? with
  | some (.exc x) => if x.fs.isEmpty = true then .no else match t x.cls with
    | some b => .ok (.bl b) S
    | none => .no
  | _ => .no
def IsI (K : PySem.W.Frag) (mg : Str → Option Value) (cv : Value) (t : IsT) : Prop := ∀ c b, t c = some b → ∃ C, mg c = some (.ref C) ∧ ExcAt K C ∧ PySem.W.kitOne K (.ref C) cv = some b
section
variable {X : Cx} {W : WX} {a : Addr} {oe : Obj} {pn : List (Addr × Obj)} {y f : Str} {i : Nat} {p pos : Pos} {cs : Str → Bool} {t : IsT} {cv : Value} {v : V}
theorem exc_now {σ : L2.St} {L : Ls} {H : Hp} {g : G} (l : LocRel (kx (X.suite a ((a, oe) :: pn))) σ L H g) {x : Exn} (q : L[i]? = some (.exc x)) : σ[i]? = some (some (.ref a)) ∧ ∃ C, X.mg x.cls = some (.ref C) ∧ oe.cls = .ref C ∧
    ∀ f e, x.fs.lookup f = some e → ∃ d fs v, oe.dict = some d ∧ H d = some (.xd fs) ∧ fs.lookup f = some v ∧ Rep (kx (X.suite a ((a, oe) :: pn))) H g e v := by
  obtain ⟨a', oe', c1, c2, C, c3, c4, c5⟩ := l.exc i x q
  have e : (a, oe) = (a', oe') := Option.some.inj c1
  cases e
  refine ⟨c2, C, c3, c4, fun f e q => ?_⟩
  obtain ⟨d, fs, v, h1, h2, h3, h4, h5⟩ := c5 f e q
  exact ⟨d, fs, v, h1, h3, h4, h5⟩
/-- isinstance(e, c), e the exception that the suite holds, of the class at D -/
def rIsX (K : PySem.W.Frag) (D a : Addr) (od : Option Addr) : List V → Hp → VK → Prop := fun xs H Q => ∃ (c : V) (cv : Value) (b : Bool), xs = [.ref a, c] ∧ (∀ u, RelV c u → u = cv) ∧ PySem.W.kitOne K (.ref D) cv = some b ∧
  (∃ d fs, od = some d ∧ H d = some (.xd fs)) ∧ Q (.bl b) H
theorem call_isX {D : Addr} (C : ExcAt X.K D) (hz : oe.cls = .ref D) (hf : ∃ vs, oe.data = .fields vs) : CallR (X.suite a ((a, oe) :: pn)) (.builtin "isinstance") (rIsX X.K D a oe.dict) := by
  intro pins s σ H xs us Q I r h
  obtain ⟨c, cv, b, rfl, hcv, e, ⟨d, fs, hd, hx⟩, q⟩ := h
  cases r with
  | cons rx rr =>
    cases rr with
    | cons rt rr =>
      cases rr
      cases rx
      have ec := hcv _ rt
      subst ec
      obtain ⟨hget, _⟩ := I.pin (a, oe) (List.mem_append.mpr (.inl List.mem_cons_self))
      obtain ⟨o, ho⟩ := objOk_get (I.hok d _ hx)
      obtain ⟨vs, hv⟩ := hf
      obtain ⟨oc, odt, oda, osl⟩ := oe
      dsimp only at hz hv hd
      subst hz hv hd
      have J : PySem.W.InstAt s.heap a _ D (some o) := ⟨hget, rfl, rfl, ho⟩
      exact PySem.W.kia_one (PySem.W.xkit C.toExcC) I.kIn J e (fun z => nomatch z) fun tk => ⟨.bl b, H, I.kept (t' := tk) fun _ _ z => z, rfl, q⟩
theorem se_isX {e2 : Expr} {p2 : Pos} (hT : IsI X.K X.mg cv t) (hg : Gl (X.suite a ((a, oe) :: pn)) "isinstance") (hm : X.mg "isinstance" = none) (hv : PE (X.suite a ((a, oe) :: pn)) (.Name y p) (tVar i)) (hf : ∃ vs, oe.data = .fields vs)
    (he : PE (X.suite a ((a, oe) :: pn)) e2 (tC v)) (hcv : ∀ u, RelV v u → u = cv) (hs : noStar e2 = true) :
    SE (X.suite a ((a, oe) :: pn)) W (.Call (.Name "isinstance" p2) [.Name y p, e2] [] pos) (eIs t i) := by
  by_cases hc : ∃ C, oe.cls = .ref C ∧ ExcAt X.K C
  · obtain ⟨C, o1, o2⟩ := hc
    refine PE.imp (pe_callB (call_isX (pn := pn) o2 o1 hf) hg hm (by decide) (pa_cons hv (pa_cons he pa_nil (star_cons hs)) rfl) (by decide) (by decide) rfl (by rw [star_cons hs]; rfl)) fun σ H Q ⟨L, S, g, l, w, q⟩ => ?_
    unfold eIs at q
    split at q
    · rename_i x hx
      obtain ⟨n1, C', n2, n3, n4⟩ := exc_now l hx
      obtain ⟨xc, xf⟩ := x
      cases xf with
      | nil => exact q.elim
      | cons fe r =>
        obtain ⟨f0, e0⟩ := fe
        simp only [List.isEmpty_cons, Bool.false_eq_true, if_false] at q
        cases z : t xc with
        | none => simp only [z] at q; exact q.elim
        | some b =>
          simp only [z] at q
          obtain ⟨C2, k1, k2, k3⟩ := hT _ _ z
          have n2' : X.mg xc = some (.ref C') := n2
          rw [n2'] at k1
          cases k1
          have o1' := o1.symm.trans n3
          cases o1'
          obtain ⟨d, fs, v', m1, m2, m3, m4⟩ := n4 f0 e0 (by simp [List.lookup])
          exact ⟨_, n1, v, cv, b, rfl, hcv, k3, ⟨d, fs, m1, m2⟩, Post.ret q w rfl⟩
    · exact q.elim
  · refine PE.imp pe_never fun σ H Q ⟨L, S, g, l, w, q⟩ => ?_
    unfold eIs at q
    split at q
    · rename_i x hx
      obtain ⟨n1, C', n2, n3, n4⟩ := exc_now l hx
      by_cases he : x.fs.isEmpty = true
      · rw [if_pos he] at q; exact q
      · rw [if_neg he] at q
        cases z : t x.cls with
        | none => simp only [z] at q; exact q
        | some b =>
          obtain ⟨C2, k1, k2, k3⟩ := hT _ _ z
          rw [n2] at k1
          cases k1
          exact hc ⟨_, n3, k2⟩
    · exact q
end
end Rf
set_option Elab.async false
set_option linter.all false
set_option maxRecDepth 100000
set_option maxHeartbeats 0
namespace Rf
open PySem L2 TL
variable {xp : ExP}
section
variable {P : D → Sto → Prop} {PS : Fl → Ls → Sto → Prop} {L : Ls} {S : Sto} {i j : Nat} {m : EM} {c f : Str} {is t : IsT} {b su : SM} {cs : Str → Bool}
instance : Ws (sRaise c f m L S) PS (wp (m L S) fun d S1 => xp.E ⟨c, [(f, d)]⟩ S1) := ⟨fun h => by
  unfold sRaise
  rw [wps_st]
  exact h.mono fun d S1 h => ⟨h⟩⟩
theorem q_suR {r : RS} (h : @wps noXP r fun fl L2 S2 => noX (L2.set i .un) = true ∧ PS fl (L2.set i .un) S2) : wps (suR i r) PS := by
  cases r with
  | no => exact h.out.elim
  | ex x L S => exact h.out.elim
  | ok fl L2 S2 =>
    obtain ⟨h1, h2⟩ := h.out
    show wps (if noX (L2.set i .un) = true then RS.ok fl (L2.set i .un) S2 else .no) PS
    rw [if_pos h1]
    exact ⟨h2⟩
/-- what is wanted of an exception of a try's body, where the locals are L -/
@[reducible] def tryX (xp : ExP) (is : IsT) (i : Nat) (su : SM) (L : Ls) (PS : Fl → Ls → Sto → Prop) : ExP := ⟨fun x S1 => ∃ b, is x.cls = some b ∧ (b = true → @wps noXP (su (L.set i (.exc x)) S1) fun fl L2 S2 => noX (L2.set i .un) = true ∧ PS fl (L2.set i .un) S2) ∧ (b = false → xp.E x S1)⟩
theorem try_ex {x : Exn} {S1 : Sto} (h : (tryX xp is i su L PS).E x S1) (e : b L S = .ex x L S1) : wps (sTry is i b su L S) PS := by
  obtain ⟨bb, e1, h1, h2⟩ := h
  unfold sTry
  rw [e]
  simp only [e1]
  cases bb with
  | true => exact q_suR (h1 rfl)
  | false => exact ⟨h2 rfl⟩
/-- the body is one statement that sets a name -/
theorem q_try_set (h : @wp (tryX xp is i su L PS) _ (m L S) fun d S1 => PS .nx (L.set j (.v d)) S1) : wps (sTry is i (sSeq (sSet j m) sNil) su L S) PS := by
  cases q : m L S with
  | no => rw [q] at h; exact h.out.elim
  | ex x S1 =>
    rw [q] at h
    refine try_ex h.out ?_
    unfold sSeq sSet
    rw [q]
  | ok d S1 =>
    rw [q] at h
    have e : sSeq (sSet j m) sNil L S = .ok .nx (L.set j (.v d)) S1 := by
      unfold sSeq sSet
      rw [q] <;> rfl
    unfold sTry
    rw [e]
    exact ⟨h.out⟩
theorem q_try_drop (h : @wp (tryX xp is i su L PS) _ (m L S) fun d S1 => PS .nx L S1) : wps (sTry is i (sSeq (sDrop m) sNil) su L S) PS := by
  cases q : m L S with
  | no => rw [q] at h; exact h.out.elim
  | ex x S1 =>
    rw [q] at h
    refine try_ex h.out ?_
    unfold sSeq sDrop
    rw [q]
  | ok d S1 =>
    rw [q] at h
    have e : sSeq (sDrop m) sNil L S = .ok .nx L S1 := by
      unfold sSeq sDrop
      rw [q] <;> rfl
    unfold sTry
    rw [e]
    exact ⟨h.out⟩
theorem q_try_ret (h : @wp (tryX xp is i su L PS) _ (m L S) fun d S1 => PS (.rt d) L S1) : wps (sTry is i (sSeq (sRet m) sNil) su L S) PS := by
  cases q : m L S with
  | no => rw [q] at h; exact h.out.elim
  | ex x S1 =>
    rw [q] at h
    refine try_ex h.out ?_
    unfold sSeq sRet
    rw [q]
  | ok d S1 =>
    rw [q] at h
    have e : sSeq (sRet m) sNil L S = .ok (.rt d) L S1 := by
      unfold sSeq sRet
      rw [q]
    unfold sTry
    rw [e]
    exact ⟨h.out⟩
instance : Ws (sTry is i (sSeq (sSet j m) sNil) su L S) PS (@wp (tryX xp is i su L PS) _ (m L S) fun d S1 => PS .nx (L.set j (.v d)) S1) := ⟨q_try_set⟩
instance : Ws (sTry is i (sSeq (sDrop m) sNil) su L S) PS (@wp (tryX xp is i su L PS) _ (m L S) fun d S1 => PS .nx L S1) := ⟨q_try_drop⟩
instance : Ws (sTry is i (sSeq (sRet m) sNil) su L S) PS (@wp (tryX xp is i su L PS) _ (m L S) fun d S1 => PS (.rt d) L S1) := ⟨q_try_ret⟩
instance : Wp (eXf cs i f L S) P (∃ x, L[i]? = some (.exc x) ∧ cs x.cls = true ∧ ∃ d, x.fs.lookup f = some d ∧ P d S) := ⟨fun ⟨x, e1, e2, d, e3, h⟩ => by
  unfold eXf
  rw [e1]
  dsimp only
  rw [if_pos e2, e3]
  exact ⟨h⟩⟩
instance : Wp (eIs t i L S) P (∃ x, L[i]? = some (.exc x) ∧ x.fs.isEmpty = false ∧ ∃ b, t x.cls = some b ∧ P (.bl b) S) := ⟨fun ⟨x, e1, e2, d, e3, h⟩ => by
  unfold eIs
  rw [e1]
  dsimp only
  rw [e2, e3]
  exact ⟨h⟩⟩
/-- what a run comes to, with its exceptions -/
theorem wp.cases {α : Type} {r : R α} {P : α → Sto → Prop} {Ex : Exn → Sto → Prop} (h : @wp ⟨Ex⟩ _ r P) {Q : α → Sto → Prop} (h1 : ∀ a S, P a S → Q a S) (h2 : ∀ x S, Ex x S → xp.E x S) : wp r Q := by
  cases r with
  | ok a S => exact ⟨h1 _ _ h.out⟩
  | ex x S => exact ⟨h2 _ _ h.out⟩
  | no => exact h.out.elim
end
end Rf
set_option Elab.async false
set_option linter.all false
set_option maxRecDepth 100000
set_option maxHeartbeats 0
namespace Rf
open PySem L2 TL
def isT (l : List (Str × Bool)) : IsT := fun c => l.lookup c
theorem lookup_mem {c : Str} {b : Bool} : ∀ {l : List (Str × Bool)}, l.lookup c = some b → (c, b) ∈ l
  | [], h => by cases h
  | (d, e) :: l, h => by
    rw [List.lookup_cons] at h
    cases z : (c == d) with
    | true =>
      rw [z] at h
      have e1 : c = d := by simpa using z
      have e2 : e = b := by simpa using h
      rw [e1, e2]
      exact List.mem_cons_self
    | false =>
      rw [z] at h
      exact List.mem_cons_of_mem _ (lookup_mem h)
def xsB (K : PySem.W.Frag) (c : Str) : Bool := okO (PySem.W.nsIn K mainGlobals c) (some (some (.ref (He.ga K c))))
def isB (K : PySem.W.Frag) (cv : Value) (l : List (Str × Bool)) : Bool := l.all fun q => xsB K q.1 && decide (PySem.W.exmOne K (.ref (He.ga K q.1)) cv = some q.2)
def kiB (K : PySem.W.Frag) (cv : Value) (l : List (Str × Bool)) : Bool := l.all fun q => xsB K q.1 && (excB K (He.ga K q.1) && decide (PySem.W.kitOne K (.ref (He.ga K q.1)) cv = some q.2))
section
variable {K : PySem.W.Frag} {h : Heap} {mg : Str → Option Value} {cv : Value} {l : List (Str × Bool)} {f : Str} {cl : List Str}
theorem isB_ok (X : K.In h) (G : h.Ns mainGlobals mg) (q : isB K cv l = true) : IsK K mg cv (isT l) := fun c b e => by
  obtain ⟨h1, h2⟩ := b2 (List.all_eq_true.mp q _ (lookup_mem e))
  exact ⟨_, PySem.W.mg_of X G (okO_ok h1), of_decide_eq_true h2⟩
theorem kiB_ok (X : K.In h) (G : h.Ns mainGlobals mg) (q : kiB K cv l = true) : IsI K mg cv (isT l) := fun c b e => by
  obtain ⟨h1, h2⟩ := b2 (List.all_eq_true.mp q _ (lookup_mem e))
  obtain ⟨h2, h3⟩ := b2 h2
  exact ⟨_, PySem.W.mg_of X G (okO_ok h1), excB_ok h2, of_decide_eq_true h3⟩
end
/-- the first def of a class's body -/
def iniOf : Stmt → Stmt
  | .ClassDef _ _ _ body _ _ _ _ _ _ _ => (body.find? fun s => match s with
    | .FunctionDef .. => true
    | _ => false).getD (.Pass ⟨0, 0, 0, 0⟩)
  | s => s
end Rf
set_option Elab.async false
set_option linter.all false
set_option maxRecDepth 100000
set_option maxHeartbeats 0
namespace Rf
open PySem PySem.Spec PyProof.Rows L2 TL
section
variable {X : Cx}
/-- text * int, else as oMul -/
def oMulT : D → D → Option D
  | .str a, .int b => if a.length ≤ 16 ∧ -(2 ^ 63) ≤ b ∧ b ≤ 1048576 then some (.str (List.replicate b.toNat a).flatten) else none
  | d, e => oMul d e
end
theorem x_muls {a : List Nat} {b : Int} (h : a.length ≤ 16 ∧ -(2 ^ 63) ≤ b ∧ b ≤ 1048576) : oMulT (.str a) (.int b) = some (.str (List.replicate b.toNat a).flatten) := if_pos h
theorem x_mulTi {a b : Int} (h : a.natAbs.log2 + b.natAbs.log2 < 1000000) : oMulT (.int a) (.int b) = some (.int (a * b)) := if_pos h
theorem x_mulTl {a : List D} {b : Int} (h : -(2 ^ 63) ≤ b ∧ b < 2 ^ 63 ∧ a.length * b.toNat ≤ sizeLine) : oMulT (.lst a) (.int b) = some (.lst (List.replicate b.toNat a).flatten) := if_pos h
instance {a : List Nat} {b : Int} : Og (oMulT (.str a) (.int b)) (.str (List.replicate b.toNat a).flatten) (a.length ≤ 16 ∧ -(2 ^ 63) ≤ b ∧ b ≤ 1048576) := ⟨x_muls⟩
instance {a b : Int} : Og (oMulT (.int a) (.int b)) (.int (a * b)) (a.natAbs.log2 + b.natAbs.log2 < 1000000) := ⟨x_mulTi⟩
instance {a : List D} {b : Int} : Og (oMulT (.lst a) (.int b)) (.lst (List.replicate b.toNat a).flatten) (-(2 ^ 63) ≤ b ∧ b < 2 ^ 63 ∧ a.length * b.toNat ≤ sizeLine) := ⟨x_mulTl⟩
end Rf
set_option Elab.async false
set_option linter.all false
set_option maxRecDepth 100000
set_option maxHeartbeats 0
namespace Rf
open PySem L2 TL
def ksI : List D → Option (List Key)
  | [] => some []
  | .int i :: ds => (ksI ds).map (Sum.inl i :: ·)
  | _ => none
def kTup : D → Option (List Key)
  | .tup (d :: ds) => ksI (d :: ds)
  | _ => none
def kD : Key → D
  | .inl i => .int i
  | .inr x => .str x.cps.toList
abbrev Dct := List (List Key × D)
def dGet (kvs : Dct) (q : List Key) : Option D := (kvs.find? fun kv => decide (kv.1 = q)).map (·.2)
def dPut (kvs : Dct) (q : List Key) (d : D) : Dct :=
  if (kvs.any fun kv => decide (kv.1 = q)) = true then kvs.map (fun kv => if kv.1 = q then (kv.1, d) else kv) else kvs ++ [(q, d)]
section
variable {k : Kx} {H : Hp} {g : G}
def KVR (k : Kx) (H : Hp) (g : G) : Dct → List (List Key × V) → Prop
  | [], ws => ws = []
  | p :: r, ws => ∃ v t, ws = (p.1, v) :: t ∧ Rep k H g p.2 v ∧ KVR k H g r t
theorem KVR.mono {H' : Hp} {g' : G} (e : PExt H g H' g') : ∀ {kvs : Dct} {ws : List (List Key × V)}, KVR k H g kvs ws → KVR k H' g' kvs ws
  | [], ws, h => h
  | p :: r, ws, ⟨v, t, q, h1, h2⟩ => ⟨v, t, q, h1.mono e _ _, KVR.mono e h2⟩
theorem KVR.len : ∀ {kvs : Dct} {ws : List (List Key × V)}, KVR k H g kvs ws → ws.length = kvs.length
  | [], ws, h => by rw [show ws = [] from h]; rfl
  | p :: r, ws, ⟨v, t, e, h1, h2⟩ => by rw [e, List.length_cons, List.length_cons, KVR.len h2]
theorem KVR.fst : ∀ {kvs : Dct} {ws : List (List Key × V)}, KVR k H g kvs ws → ws.map (·.1) = kvs.map (·.1)
  | [], ws, h => by rw [show ws = [] from h]; rfl
  | p :: r, ws, ⟨v, t, e, h1, h2⟩ => by rw [e, List.map_cons, List.map_cons, KVR.fst h2]
theorem KVR.get {q : List Key} {d : D} : ∀ {kvs : Dct} {ws : List (List Key × V)}, KVR k H g kvs ws → dGet kvs q = some d → ∃ v, valV ws q = some v ∧ Rep k H g d v
  | [], ws, h, e => by cases e
  | p :: r, ws, ⟨v, t, e, h1, h2⟩, hg => by
    subst e
    by_cases hp : p.1 = q
    · rw [valV_pos (p := (p.1, v)) hp]
      unfold dGet at hg
      rw [List.find?_cons, decide_eq_true hp] at hg
      have : p.2 = d := by simpa using hg
      subst this
      exact ⟨v, rfl, h1⟩
    · rw [valV_neg (p := (p.1, v)) hp]
      unfold dGet at hg
      rw [List.find?_cons, decide_eq_false hp] at hg
      exact KVR.get h2 hg
theorem KVR.any {q : List Key} : ∀ {kvs : Dct} {ws : List (List Key × V)}, KVR k H g kvs ws → (ws.any fun kv => decide (kv.1 = q)) = kvs.any fun kv => decide (kv.1 = q)
  | [], ws, h => by rw [show ws = [] from h]; rfl
  | p :: r, ws, ⟨v, t, e, h1, h2⟩ => by rw [e, List.any_cons, List.any_cons, KVR.any h2]
theorem KVR.upd {q : List Key} {d : D} {v : V} (h : Rep k H g d v) : ∀ {kvs : Dct} {ws : List (List Key × V)}, KVR k H g kvs ws → KVR k H g (kvs.map fun kv => if kv.1 = q then (kv.1, d) else kv) (ws.map fun kv => if kv.1 = q then (kv.1, v) else kv)
  | [], ws, e => by rw [show ws = [] from e]; rfl
  | p :: r, ws, ⟨u, t, e, h1, h2⟩ => by
    subst e
    rw [List.map_cons, List.map_cons]
    by_cases hp : p.1 = q
    · rw [if_pos hp, if_pos (show ((p.1, u) : List Key × V).1 = q from hp)]
      exact ⟨v, _, rfl, h, KVR.upd h h2⟩
    · rw [if_neg hp, if_neg (show ¬ ((p.1, u) : List Key × V).1 = q from hp)]
      exact ⟨u, _, rfl, h1, KVR.upd h h2⟩
theorem KVR.snoc {q : List Key} {d : D} {v : V} (h : Rep k H g d v) : ∀ {kvs : Dct} {ws : List (List Key × V)}, KVR k H g kvs ws → KVR k H g (kvs ++ [(q, d)]) (ws ++ [(q, v)])
  | [], ws, e => by rw [show ws = [] from e]; exact ⟨v, [], rfl, h, rfl⟩
  | p :: r, ws, ⟨u, t, e, h1, h2⟩ => by subst e; exact ⟨u, _, rfl, h1, KVR.snoc h h2⟩
theorem KVR.put {q : List Key} {d : D} {v : V} {kvs : Dct} {ws : List (List Key × V)} (r : KVR k H g kvs ws) (h : Rep k H g d v) : KVR k H g (dPut kvs q d) (putK ws q v) := by
  unfold dPut putK
  rw [r.any]
  split
  · exact r.upd h
  · exact r.snoc h
end
def sDct (i : Nat) : SM := fun L S => .ok .nx (L.set i (.o (.dT []))) S
def sPutT (i : Nat) (mk mv : EM) : SM := fun L S => (mv L S).st L fun d S1 => match L[i]? with
  | some (.o (.dT kvs)) => (mk L S1).st L fun y S2 => match kTup y with
    | some q => if kvs.length < sizeLine then .ok .nx (L.set i (.o (.dT (dPut kvs q d)))) S2 else .no
    | none => .no
  | _ => .no
def eGetT (i : Nat) (mk : EM) : EM := fun L S => match L[i]? with
  | some (.o (.dT kvs)) => (mk L S).bind fun y S1 => match kTup y with
    | some q => lift (dGet kvs q) S1
    | none => .no
  | _ => .no
def fKeysT (i : Nat) : Ls → Sto → R (List D) := fun L S => match L[i]? with
  | some (.o (.dT kvs)) => .ok (kvs.map fun kv => .tup (kv.1.map kD)) S
  | _ => .no
end Rf
set_option Elab.async false
set_option linter.all false
set_option maxRecDepth 100000
set_option maxHeartbeats 0
namespace Rf
open PySem PySem.W PySem.Calls PySem.SeqAt PyProof.Rows L2 TS
def lexL : List Int → List Int → Bool
  | [], [] => false
  | [], _ :: _ => true
  | _ :: _, [] => false
  | a :: as, b :: bs => if a = b then lexL as bs else decide (a < b)
/-- how many of L are below -/
def rk (L : List (List Int)) (a : List Int) : Int := ((L.countP fun m => lexL m a : Nat) : Int)
end Rf
set_option Elab.async false
set_option linter.all false
set_option maxRecDepth 100000
set_option maxHeartbeats 0
namespace Rf
open PySem PySem.W PySem.Calls PySem.SeqAt PyProof.Rows L2 TS
end Rf
set_option Elab.async false
set_option linter.all false
set_option maxRecDepth 100000
set_option maxHeartbeats 0
namespace Rf
open PySem PySem.W PySem.Calls PySem.SeqAt PyProof.Rows L2 TS
end Rf
set_option Elab.async false
set_option linter.all false
set_option maxRecDepth 100000
set_option maxHeartbeats 0
namespace Rf
open PySem L2 TL TS PyProof.Rows
def isI : List D → Option (List Int)
  | [] => some []
  | .int i :: ds => (isI ds).map (i :: ·)
  | _ => none
section
variable {X : Cx} {pins : List (Addr × Obj)} {σ : L2.St} {H : Hp} {s : Shared} {g : G}
theorem rep_ints {H : Hp} {k : Kx} (ns : List Int) : RepL k H g (ns.map D.int) (ns.map V.int) := by
  induction ns with
  | nil => rfl
  | cons n ns ih => exact ⟨_, _, rfl, rfl, ih⟩
end
end Rf
set_option Elab.async false
set_option linter.all false
set_option maxRecDepth 100000
set_option maxHeartbeats 0
namespace Rf
open PySem L2 TL
theorem un1 {u c : Nat} (h : u + 64 < c) : u + 1 < c := by omega
def fRev (m : EM) : Ls → Sto → R (List D) := fun L S => (m L S).bind fun d S1 => match deref S1 d with
  | .lst ds => .ok ds.reverse S1
  | _ => .no
section
variable {X : Cx} {W : WX} {e : Expr} {m : EM} {k : Nat} {p1 p2 p3 pos : Pos}
theorem sf_rev (h : SP X W e m) : SF X W (.Subscript e (.Slice none none (some (.UnaryOp .USub (.Constant (.int 1) k p1) p2)) p3) pos) (fRev m) :=
  PE.imp (pe_revL h) fun σ H Q ⟨L, S, g, l, w, p⟩ => ⟨L, S, g, l, w, Post.bind p fun d S1 v H1 g1 e1 w1 r1 p1 => by
    have c := r1.c (l.ext e1) w1
    split at p1
    · rename_i ds q
      rw [q] at c
      obtain ⟨a, vs, rfl, ha, rl⟩ := c
      exact ⟨a, vs, rfl, SqL.of ha, fun b hb => f_fin e1 w1 rl.reverse p1 hb⟩
    · exact p1.elim⟩
end
section
variable {xp : ExP} {P : D → Sto → Prop} {PL : List D → Sto → Prop} {PS : Fl → Ls → Sto → Prop} {L : Ls} {S : Sto} {i : Nat} {a b m : EM}
theorem r_fRev (h : wp (m L S) fun d S1 => ∃ ds, deref S1 d = .lst ds ∧ PL ds.reverse S1) : wp (fRev m L S) PL := by
  unfold fRev
  rw [wp_bind]
  refine h.mono fun d S1 ⟨ds, e, h⟩ => ?_
  rw [e]
  exact ⟨h⟩
theorem q_dct (h : PS .nx (L.set i (.o (.dT []))) S) : wps (sDct i L S) PS := ⟨h⟩
theorem q_putT (h : wp (b L S) fun d S1 => ∃ kvs, L[i]? = some (.o (.dT kvs)) ∧ wp (a L S1) fun y S2 => ∃ q, kTup y = some q ∧ kvs.length < sizeLine ∧ PS .nx (L.set i (.o (.dT (dPut kvs q d)))) S2) : wps (sPutT i a b L S) PS := by
  unfold sPutT
  rw [wps_st]
  refine h.mono fun d S1 ⟨kvs, e, h⟩ => ?_
  rw [e]
  dsimp only
  rw [wps_st]
  refine h.mono fun y S2 ⟨q, e1, e2, h⟩ => ?_
  rw [e1]
  dsimp only
  rw [if_pos e2]
  exact ⟨h⟩
theorem r_getT (h : ∃ kvs, L[i]? = some (.o (.dT kvs)) ∧ wp (a L S) fun y S1 => ∃ q, kTup y = some q ∧ ∃ d, dGet kvs q = some d ∧ P d S1) : wp (eGetT i a L S) P := by
  obtain ⟨kvs, e, h⟩ := h
  unfold eGetT
  rw [e]
  dsimp only
  rw [wp_bind]
  refine h.mono fun y S1 ⟨q, e1, d, e2, h⟩ => ?_
  rw [e1]
  dsimp only
  exact r_lift ⟨d, e2, h⟩
theorem r_keysT (h : ∃ kvs, L[i]? = some (.o (.dT kvs)) ∧ PL (kvs.map fun kv => .tup (kv.1.map kD)) S) : wp (fKeysT i L S) PL := by
  obtain ⟨kvs, e, h⟩ := h
  unfold fKeysT
  rw [e]
  exact ⟨h⟩
instance : Wp (fRev m L S) PL (wp (m L S) fun d S1 => ∃ ds, deref S1 d = .lst ds ∧ PL ds.reverse S1) := ⟨r_fRev⟩
instance : Ws (sDct i L S) PS (PS .nx (L.set i (.o (.dT []))) S) := ⟨q_dct⟩
instance : Ws (sPutT i a b L S) PS (wp (b L S) fun d S1 => ∃ kvs, L[i]? = some (.o (.dT kvs)) ∧ wp (a L S1) fun y S2 => ∃ q, kTup y = some q ∧ kvs.length < sizeLine ∧ PS .nx (L.set i (.o (.dT (dPut kvs q d)))) S2) := ⟨q_putT⟩
instance : Wp (eGetT i a L S) P (∃ kvs, L[i]? = some (.o (.dT kvs)) ∧ wp (a L S) fun y S1 => ∃ q, kTup y = some q ∧ ∃ d, dGet kvs q = some d ∧ P d S1) := ⟨r_getT⟩
instance : Wp (fKeysT i L S) PL (∃ kvs, L[i]? = some (.o (.dT kvs)) ∧ PL (kvs.map fun kv => .tup (kv.1.map kD)) S) := ⟨r_keysT⟩
end
end Rf
set_option Elab.async false
set_option linter.all false
set_option maxRecDepth 100000
set_option maxHeartbeats 0
namespace Rf
open PySem L2 TL
def kKey : D → Option Key
  | .int i => some (.inl i)
  | .str x => some (.inr ⟨x.toArray⟩)
  | _ => none
abbrev DctK := List (Key × D)
def dGetK (kvs : DctK) (q : Key) : Option D := (kvs.find? fun kv => decide (kv.1 = q)).map (·.2)
def dPutK (kvs : DctK) (q : Key) (d : D) : DctK :=
  if (kvs.any fun kv => decide (kv.1 = q)) = true then kvs.map (fun kv => if kv.1 = q then (kv.1, d) else kv) else kvs ++ [(q, d)]
section
variable {k : Kx} {H : Hp} {g : G}
theorem kKey_ok {y : D} {w : V} {q : Key} (h : kKey y = some q) (r : Rep k H g y w) : w = kV q := by
  cases y with
  | int i => cases h; exact r
  | str x => cases h; exact r
  | _ => cases h
def KVK (k : Kx) (H : Hp) (g : G) : DctK → List (Key × V) → Prop
  | [], ws => ws = []
  | p :: r, ws => ∃ v t, ws = (p.1, v) :: t ∧ Rep k H g p.2 v ∧ KVK k H g r t
theorem kvk_of : ∀ {kvs : DctK} {vs : List V}, RepL k H g (kvs.map (·.2)) vs → KVK k H g kvs ((kvs.map (·.1)).zip vs)
  | [], vs, h => rfl
  | p :: r, vs, ⟨v, t, e, h1, h2⟩ => by
    subst e
    exact ⟨v, _, rfl, h1, kvk_of h2⟩
theorem of_kvk : ∀ {kvs : DctK} {ws : List (Key × V)}, KVK k H g kvs ws → ∃ vs, ws = (kvs.map (·.1)).zip vs ∧ RepL k H g (kvs.map (·.2)) vs
  | [], ws, h => ⟨[], by rw [show ws = [] from h]; rfl, rfl⟩
  | p :: r, ws, ⟨v, t, e, h1, h2⟩ => by
    obtain ⟨vs, q1, q2⟩ := of_kvk h2
    exact ⟨v :: vs, by rw [e, q1]; rfl, v, vs, rfl, h1, q2⟩
theorem orK {kvs : DctK} {a : Addr} : ORep k H g (.dK kvs) a ↔ ∃ ws, H a = some (.dK ws) ∧ KVK k H g kvs ws := by
  constructor
  · rintro ⟨vs, e, r⟩
    exact ⟨_, e, kvk_of r⟩
  · rintro ⟨ws, e, r⟩
    obtain ⟨vs, q, r⟩ := of_kvk r
    exact ⟨vs, by rw [e, q], r⟩
theorem KVK.mono {H' : Hp} {g' : G} (e : PExt H g H' g') : ∀ {kvs : DctK} {ws : List (Key × V)}, KVK k H g kvs ws → KVK k H' g' kvs ws
  | [], ws, h => h
  | p :: r, ws, ⟨v, t, q, h1, h2⟩ => ⟨v, t, q, h1.mono e _ _, KVK.mono e h2⟩
theorem KVK.lenK : ∀ {kvs : DctK} {ws : List (Key × V)}, KVK k H g kvs ws → ws.length = kvs.length
  | [], ws, h => by rw [show ws = [] from h]; rfl
  | p :: r, ws, ⟨v, t, e, h1, h2⟩ => by rw [e, List.length_cons, List.length_cons, KVK.lenK h2]
theorem KVK.fst : ∀ {kvs : DctK} {ws : List (Key × V)}, KVK k H g kvs ws → ws.map (·.1) = kvs.map (·.1)
  | [], ws, h => by rw [show ws = [] from h]; rfl
  | p :: r, ws, ⟨v, t, e, h1, h2⟩ => by rw [e, List.map_cons, List.map_cons, KVK.fst h2]
theorem KVK.get {q : Key} {d : D} : ∀ {kvs : DctK} {ws : List (Key × V)}, KVK k H g kvs ws → dGetK kvs q = some d → ∃ v, valV ws q = some v ∧ Rep k H g d v
  | [], ws, h, e => by cases e
  | p :: r, ws, ⟨v, t, e, h1, h2⟩, hg => by
    subst e
    by_cases hp : p.1 = q
    · rw [valV_pos (p := (p.1, v)) hp]
      unfold dGetK at hg
      rw [List.find?_cons, decide_eq_true hp] at hg
      have : p.2 = d := by simpa using hg
      subst this
      exact ⟨v, rfl, h1⟩
    · rw [valV_neg (p := (p.1, v)) hp]
      unfold dGetK at hg
      rw [List.find?_cons, decide_eq_false hp] at hg
      exact KVK.get h2 hg
theorem KVK.any {q : Key} : ∀ {kvs : DctK} {ws : List (Key × V)}, KVK k H g kvs ws → (ws.any fun kv => decide (kv.1 = q)) = kvs.any fun kv => decide (kv.1 = q)
  | [], ws, h => by rw [show ws = [] from h]; rfl
  | p :: r, ws, ⟨v, t, e, h1, h2⟩ => by rw [e, List.any_cons, List.any_cons, KVK.any h2]
theorem KVK.upd {q : Key} {d : D} {v : V} (h : Rep k H g d v) : ∀ {kvs : DctK} {ws : List (Key × V)}, KVK k H g kvs ws → KVK k H g (kvs.map fun kv => if kv.1 = q then (kv.1, d) else kv) (ws.map fun kv => if kv.1 = q then (kv.1, v) else kv)
  | [], ws, e => by rw [show ws = [] from e]; rfl
  | p :: r, ws, ⟨u, t, e, h1, h2⟩ => by
    subst e
    rw [List.map_cons, List.map_cons]
    by_cases hp : p.1 = q
    · rw [if_pos hp, if_pos (show ((p.1, u) : Key × V).1 = q from hp)]
      exact ⟨v, _, rfl, h, KVK.upd h h2⟩
    · rw [if_neg hp, if_neg (show ¬ ((p.1, u) : Key × V).1 = q from hp)]
      exact ⟨u, _, rfl, h1, KVK.upd h h2⟩
theorem KVK.snoc {q : Key} {d : D} {v : V} (h : Rep k H g d v) : ∀ {kvs : DctK} {ws : List (Key × V)}, KVK k H g kvs ws → KVK k H g (kvs ++ [(q, d)]) (ws ++ [(q, v)])
  | [], ws, e => by rw [show ws = [] from e]; exact ⟨v, [], rfl, h, rfl⟩
  | p :: r, ws, ⟨u, t, e, h1, h2⟩ => by subst e; exact ⟨u, _, rfl, h1, KVK.snoc h h2⟩
theorem KVK.put {q : Key} {d : D} {v : V} {kvs : DctK} {ws : List (Key × V)} (r : KVK k H g kvs ws) (h : Rep k H g d v) : KVK k H g (dPutK kvs q d) (putK ws q v) := by
  unfold dPutK putK
  rw [r.any]
  split
  · exact r.upd h
  · exact r.snoc h
end
def eEdc : EM := fun _ S => .ok .edc S
def sDcK (i : Nat) : SM := fun L S => .ok .nx (L.set i (.o (.dK []))) S
def sPutK (i : Nat) (mk mv : EM) : SM := fun L S => (mv L S).st L fun d S1 => match L[i]? with
  | some (.o (.dK kvs)) => (mk L S1).st L fun y S2 => match kKey y with
    | some q => if kvs.length < sizeLine then .ok .nx (L.set i (.o (.dK (dPutK kvs q d)))) S2 else .no
    | none => .no
  | _ => .no
def eGetK (i : Nat) (mk : EM) : EM := fun L S => match L[i]? with
  | some (.o (.dK kvs)) => (mk L S).bind fun y S1 => match kKey y with
    | some q => lift (dGetK kvs q) S1
    | none => .no
  | _ => .no
def fKeysK (i : Nat) : Ls → Sto → R (List D) := fun L S => match L[i]? with
  | some (.o (.dK kvs)) => .ok (kvs.map fun kv => kD kv.1) S
  | _ => .no
def insI (a : Int) : List Int → List Int
  | [] => [a]
  | b :: l => if b < a then b :: insI a l else a :: b :: l
def srtI : List Int → List Int
  | [] => []
  | a :: l => insI a (srtI l)
theorem insI_perm (a : Int) : ∀ l, (insI a l).Perm (a :: l)
  | [] => List.Perm.refl _
  | b :: l => by
    rw [insI]
    split
    · exact ((insI_perm a l).cons b).trans (List.Perm.swap a b l)
    · exact List.Perm.refl _
theorem srtI_perm : ∀ l, (srtI l).Perm l
  | [] => List.Perm.refl _
  | a :: l => (insI_perm a _).trans ((srtI_perm l).cons a)
theorem insI_pw (a : Int) : ∀ {l : List Int}, l.Pairwise (· ≤ ·) → (insI a l).Pairwise (· ≤ ·)
  | [], _ => List.pairwise_singleton _ _
  | b :: l, h => by
    obtain ⟨h1, h2⟩ := List.pairwise_cons.mp h
    rw [insI]
    split
    · rename_i q
      refine List.pairwise_cons.mpr ⟨fun x hx => ?_, insI_pw a h2⟩
      rcases List.mem_cons.mp ((insI_perm a l).mem_iff.mp hx) with rfl | hx
      · omega
      · exact h1 x hx
    · rename_i q
      refine List.pairwise_cons.mpr ⟨fun x hx => ?_, h⟩
      rcases List.mem_cons.mp hx with rfl | hx
      · omega
      · have := h1 x hx; omega
theorem srtI_pw : ∀ l, (srtI l).Pairwise (· ≤ ·)
  | [] => .nil
  | a :: l => insI_pw a (srtI_pw l)
theorem srtI_uniq : ∀ {l m : List Int}, l.Perm m → l.Pairwise (· ≤ ·) → m.Pairwise (· ≤ ·) → l = m
  | [], m, p, _, _ => (p.nil_eq)
  | a :: l, [], p, _, _ => by have := p.length_eq; cases this
  | a :: l, b :: m, p, h, h' => by
    obtain ⟨h1, h2⟩ := List.pairwise_cons.mp h
    obtain ⟨h1', h2'⟩ := List.pairwise_cons.mp h'
    have e : a = b := by
      have ma := p.mem_iff.mp (List.mem_cons_self (a := a) (l := l))
      have mb := p.mem_iff.mpr (List.mem_cons_self (a := b) (l := m))
      rcases List.mem_cons.mp ma with e | ma
      · exact e
      · rcases List.mem_cons.mp mb with e | mb
        · exact e.symm
        · have := h1' a ma
          have := h1 b mb
          omega
    subst e
    rw [srtI_uniq p.cons_inv h2 h2']
theorem rep_isI {k : Kx} {H : Hp} {g : G} : ∀ {ds : List D} {ns : List Int} {vs : List V}, isI ds = some ns → RepL k H g ds vs → vs = ns.map V.int
  | [], ns, vs, h, r => by
    cases h
    exact (show vs = [] from r)
  | d :: ds, ns, vs, h, ⟨v, t, e, r1, r2⟩ => by
    subst e
    cases d <;> simp only [isI, Option.map_eq_some_iff] at h <;> try (cases h; done)
    obtain ⟨l, h, rfl⟩ := h
    rw [rep_isI h r2, show v = _ from r1]
    rfl
section
variable {xp : ExP} {P : D → Sto → Prop} {PL : List D → Sto → Prop} {PS : Fl → Ls → Sto → Prop} {L : Ls} {S : Sto} {i : Nat} {a b m : EM}
theorem r_edc (h : P .edc S) : wp (eEdc L S) P := ⟨h⟩
theorem q_dcK (h : PS .nx (L.set i (.o (.dK []))) S) : wps (sDcK i L S) PS := ⟨h⟩
theorem q_putK (h : wp (b L S) fun d S1 => ∃ kvs, L[i]? = some (.o (.dK kvs)) ∧ wp (a L S1) fun y S2 => ∃ q, kKey y = some q ∧ kvs.length < sizeLine ∧ PS .nx (L.set i (.o (.dK (dPutK kvs q d)))) S2) : wps (sPutK i a b L S) PS := by
  unfold sPutK
  rw [wps_st]
  refine h.mono fun d S1 ⟨kvs, e, h⟩ => ?_
  rw [e]
  dsimp only
  rw [wps_st]
  refine h.mono fun y S2 ⟨q, e1, e2, h⟩ => ?_
  rw [e1]
  dsimp only
  rw [if_pos e2]
  exact ⟨h⟩
theorem r_getK (h : ∃ kvs, L[i]? = some (.o (.dK kvs)) ∧ wp (a L S) fun y S1 => ∃ q, kKey y = some q ∧ ∃ d, dGetK kvs q = some d ∧ P d S1) : wp (eGetK i a L S) P := by
  obtain ⟨kvs, e, h⟩ := h
  unfold eGetK
  rw [e]
  dsimp only
  rw [wp_bind]
  refine h.mono fun y S1 ⟨q, e1, d, e2, h⟩ => ?_
  rw [e1]
  dsimp only
  exact r_lift ⟨d, e2, h⟩
theorem r_keysK (h : ∃ kvs, L[i]? = some (.o (.dK kvs)) ∧ PL (kvs.map fun kv => kD kv.1) S) : wp (fKeysK i L S) PL := by
  obtain ⟨kvs, e, h⟩ := h
  unfold fKeysK
  rw [e]
  exact ⟨h⟩
instance : Wp (eEdc L S) P (P .edc S) := ⟨r_edc⟩
instance : Ws (sDcK i L S) PS (PS .nx (L.set i (.o (.dK []))) S) := ⟨q_dcK⟩
instance : Ws (sPutK i a b L S) PS (wp (b L S) fun d S1 => ∃ kvs, L[i]? = some (.o (.dK kvs)) ∧ wp (a L S1) fun y S2 => ∃ q, kKey y = some q ∧ kvs.length < sizeLine ∧ PS .nx (L.set i (.o (.dK (dPutK kvs q d)))) S2) := ⟨q_putK⟩
instance : Wp (eGetK i a L S) P (∃ kvs, L[i]? = some (.o (.dK kvs)) ∧ wp (a L S) fun y S1 => ∃ q, kKey y = some q ∧ ∃ d, dGetK kvs q = some d ∧ P d S1) := ⟨r_getK⟩
instance : Wp (fKeysK i L S) PL (∃ kvs, L[i]? = some (.o (.dK kvs)) ∧ PL (kvs.map fun kv => kD kv.1) S) := ⟨r_keysK⟩
end
end Rf
set_option Elab.async false
set_option linter.all false
set_option maxRecDepth 100000
set_option maxHeartbeats 1000000
namespace Rf
open PySem L2 TL
section
variable {k : Kx} {B H : Hp} {gB g : G} {S : Sto} {σ : L2.St} {L : Ls} {a : Addr} {o o' : O} {u : HO} {n : Nat}
def isM : HO → Bool
  | .lst _ => true
  | .dK _ => true
  | .dT _ => true
  | .ins _ _ _ => true
  | .ext _ => true
  | _ => false
theorem isM_of {u : HO} (h : isM u = true) : (∀ xs, u ≠ .tup xs) ∧ (∀ p q, u ≠ .frz p q) ∧ Mut (some u) := by
  cases u <;> first | exact ⟨fun _ => HO.noConfusion, fun _ _ => HO.noConfusion, True.intro⟩ | cases h
theorem ORep.isM (h : ORep k H g o a) : ∃ u, H a = some u ∧ isM u = true := by
  cases o with
  | lst ds => obtain ⟨vs, e, _⟩ := h; exact ⟨_, e, rfl⟩
  | dK kvs => obtain ⟨vs, e, _⟩ := h; exact ⟨_, e, rfl⟩
  | dT kvs => obtain ⟨vs, e, _⟩ := h; exact ⟨_, e, rfl⟩
  | ins c ns ds => obtain ⟨C, dx, vs, _, e, _⟩ := h; exact ⟨_, e, rfl⟩
  | dN kvs => obtain ⟨es, e, _⟩ := h; exact ⟨_, e, rfl⟩
theorem ORep.mut (h : ORep k H g o a) : (∀ xs, H a ≠ some (.tup xs)) ∧ (∀ p q, H a ≠ some (.frz p q)) ∧ Mut (H a) := by
  obtain ⟨u, e, m⟩ := h.isM
  obtain ⟨m1, m2, m3⟩ := isM_of m
  rw [e]
  exact ⟨fun xs z => m1 xs (Option.some.inj z), fun p q z => m2 p q (Option.some.inj z), m3⟩
theorem WF.pe (w : WF k H g S) (hn : S[n]? = some o) : PExt H g (upd H (g.ρ n) u) g := by
  have hg : n < g.n := by rw [← w.len]; exact (List.getElem?_eq_some_iff.mp hn).1
  obtain ⟨m1, m2, _⟩ := ORep.mut (w.ob n _ hn)
  refine ⟨fun _ f => f, fun b o q1 q => ?_, fun b xs q => ?_, fun b o u q => ?_, Nat.le_refl _, fun _ _ => rfl⟩
  · rw [upd_ne (fun z => w.nF n hg (by rw [← z]; exact q1))]; exact q
  · rw [upd_ne (fun z => m1 xs (by rw [← z]; exact q))]; exact q
  · rw [upd_ne (fun z => m2 o u (by rw [← z]; exact q))]; exact q
theorem WF.chg (w : WF k H g S) (hn : S[n]? = some o) (r : ORep k (upd H (g.ρ n) u) g o' (g.ρ n)) : Ext H g (upd H (g.ρ n) u) g ∧ WF k (upd H (g.ρ n) u) g (S.set n o') := by
  have hl : n < S.length := (List.getElem?_eq_some_iff.mp hn).1
  have hg : n < g.n := by rw [← w.len]; exact hl
  have pe := w.pe (u := u) hn
  obtain ⟨t0, ht0⟩ := ORep.tr (w.ob n _ hn)
  refine ⟨⟨pe, fun a o q hb => by rw [upd_ne (fun z => hb n hg z.symm)]; exact q, fun _ h => .inl h, fun i h1 h2 => absurd h2 (Nat.not_lt.mpr h1), fun a o q => ?_⟩, ?_⟩
  · by_cases z : a = g.ρ n
    · subst z; exact ⟨_, upd_same⟩
    · exact ⟨o, by rw [upd_ne z]; exact q⟩
  · refine ⟨by rw [List.length_set]; exact w.len, fun i o h => ?_, w.inj, w.nF, fun a q => ?_⟩
    · by_cases hi : n = i
      · subst hi
        rw [List.getElem?_set_self hl] at h
        cases h
        exact r
      · rw [List.getElem?_set_ne hi] at h
        have hi' : i < g.n := by rw [← w.len]; exact (List.getElem?_eq_some_iff.mp h).1
        exact (w.ob i o h).mono pe fun o q => by rw [upd_ne (fun z => hi (w.inj i n hi' hg z).symm)]; exact q
    · obtain ⟨o, z⟩ := w.tF a q
      exact ⟨o, by rw [upd_ne (fun y => w.nF n hg (by rw [← y]; exact q))]; exact z⟩
theorem Fr.chgS (f : Fr k B gB σ L H g S) (hn : S[n]? = some o) (r : ORep k (upd H (g.ρ n) u) g o' (g.ρ n)) : Fr k B gB σ L (upd H (g.ρ n) u) g (S.set n o') ∧ PExt H g (upd H (g.ρ n) u) g := by
  obtain ⟨e, w⟩ := f.wf.chg hn r
  exact ⟨f.ext e w, e.toPExt⟩
end
def fGet {α : Type} (f : Str) : List Str → List α → Option α
  | n :: ns, x :: xs => if n = f then some x else fGet f ns xs
  | _, _ => none
def fPut {α : Type} (f : Str) (v : α) : List Str → List α → List Str × List α
  | n :: ns, x :: xs => if n = f then (n :: ns, v :: xs) else ((n :: (fPut f v ns xs).1), (x :: (fPut f v ns xs).2))
  | _, _ => ([f], [v])
theorem fGet_zip (f : Str) : ∀ (ns : List Str) (vs : List V), (ns.zip vs).lookup f = fGet f ns vs
  | [], _ => rfl
  | _ :: _, [] => rfl
  | n :: ns, v :: vs => by
    rw [List.zip_cons_cons, List.lookup_cons, fGet]
    by_cases h : n = f
    · subst h; simp
    · rw [if_neg h, show (f == n) = false from beq_eq_false_iff_ne.mpr (fun e => h e.symm)]
      exact fGet_zip f ns vs
theorem fPut_zip (f : Str) (v : V) : ∀ (ns : List Str) (vs : List V), putF f v (ns.zip vs) = (fPut f v ns vs).1.zip (fPut f v ns vs).2
  | [], _ => rfl
  | _ :: _, [] => rfl
  | n :: ns, x :: vs => by
    rw [List.zip_cons_cons, putF, fPut]
    by_cases h : n = f
    · rw [if_pos h, if_pos h]; rfl
    · rw [if_neg h, if_neg h, fPut_zip f v ns vs]; rfl
theorem fPut_ns {α β : Type} (f : Str) (v : α) (w : β) : ∀ (ns : List Str) (xs : List α) (ys : List β), xs.length = ys.length → (fPut f v ns xs).1 = (fPut f w ns ys).1
  | [], _, _, _ => rfl
  | _ :: _, [], [], _ => rfl
  | _ :: _, [], _ :: _, h => by cases h
  | _ :: _, _ :: _, [], h => by cases h
  | n :: ns, x :: xs, y :: ys, h => by
    rw [fPut, fPut]
    by_cases q : n = f
    · rw [if_pos q, if_pos q]
    · rw [if_neg q, if_neg q, fPut_ns f v w ns xs ys (by simpa using h)]
section
variable {k : Kx} {H : Hp} {g : G} {f : Str}
theorem fGet_rep {d : D} : ∀ {ns : List Str} {ds : List D} {vs : List V}, RepL k H g ds vs → fGet f ns ds = some d → ∃ v, fGet f ns vs = some v ∧ Rep k H g d v
  | [], _, _, _, h => by cases h
  | _ :: _, [], _, _, h => by cases h
  | n :: ns, x :: ds, _, ⟨v, r, e, h1, h2⟩, h => by
    subst e
    rw [fGet] at h ⊢
    by_cases q : n = f
    · rw [if_pos q] at h ⊢; cases h; exact ⟨v, rfl, h1⟩
    · rw [if_neg q] at h ⊢; exact fGet_rep h2 h
theorem fGet_none {ns : List Str} : ∀ {ds : List D} {vs : List V}, RepL k H g ds vs → fGet f ns ds = none → fGet f ns vs = none := by
  induction ns with
  | nil => intros; rfl
  | cons n ns ih =>
    intro ds vs r h
    cases ds with
    | nil => cases (show vs = [] from r); rfl
    | cons d ds =>
      obtain ⟨v, t, e, h1, h2⟩ := r
      subst e
      rw [fGet] at h ⊢
      by_cases q : n = f
      · rw [if_pos q] at h; cases h
      · rw [if_neg q] at h ⊢; exact ih h2 h
theorem fPut_rep {d : D} {v : V} (h : Rep k H g d v) : ∀ {ns : List Str} {ds : List D} {vs : List V}, RepL k H g ds vs → RepL k H g (fPut f d ns ds).2 (fPut f v ns vs).2
  | [], _, _, _ => ⟨v, [], rfl, h, rfl⟩
  | _ :: _, [], vs, r => by cases (show vs = [] from r); exact ⟨v, [], rfl, h, rfl⟩
  | n :: ns, x :: ds, _, ⟨u, t, e, h1, h2⟩ => by
    subst e
    rw [fPut, fPut]
    by_cases q : n = f
    · rw [if_pos q, if_pos q]; exact ⟨v, t, rfl, h, h2⟩
    · rw [if_neg q, if_neg q]; exact ⟨u, _, rfl, h1, fPut_rep h h2⟩
end
/-- the classes of cs are plain and have no attribute f -/
def FldK (K : PySem.W.Frag) (mg : Str → Option Value) (cs : List Str) (f : Str) : Prop := ∀ c ∈ cs, ∃ C, mg c = some (.ref C) ∧ Cls K C ∧ NoAttr K C f
/-- the object, if it is an instance -/
def insOf (S : Sto) : D → Option (Str × List Str × List D)
  | .obj n => match S[n]? with
    | some (.ins c ns ds) => some (c, ns, ds)
    | _ => none
  | .ins c ns ds => some (c, ns, ds)
  | _ => none
theorem insOf_rep {k : Kx} {H : Hp} {g : G} {S : Sto} {d : D} {v : V} {c : Str} {ns : List Str} {ds : List D} (w : WF k H g S) (r : Rep k H g d v) (h : insOf S d = some (c, ns, ds)) :
    ∃ a C dx vs, v = .ref a ∧ k.mg c = some (.ref C) ∧ H a = some (.ins C dx (ns.zip vs)) ∧ RepL k H g ds vs := by
  cases d with
  | obj n =>
    obtain ⟨hn, rfl⟩ := r
    simp only [insOf] at h
    split at h
    · rename_i c' ns' ds' q
      cases h
      obtain ⟨C, dx, vs, h1, h2, h3⟩ := w.ob n _ q
      exact ⟨_, C, dx, vs, rfl, h1, h2, h3⟩
    · cases h
  | ins c' ns' ds' =>
    cases h
    obtain ⟨a, C, dx, vs, h1, _, h3, h4, h5⟩ := r
    exact ⟨a, C, dx, vs, h1, h3, h4, h5⟩
  | _ => cases h
def eFl (cs : List Str) (f : Str) (mo : EM) : EM := fun L S => (mo L S).bind fun d S1 => match insOf S1 d with
  | some (c, ns, ds) => if c ∈ cs then lift (fGet f ns ds) S1 else .no
  | none => .no
/-- o.f = e -/
def sFl (cs : List Str) (f : Str) (mo mv : EM) : SM := fun L S => (mv L S).st L fun d S1 => (mo L S1).st L fun o S2 => match o with
  | .obj n => match S2[n]? with
    | some (.ins c ns ds) => if c ∈ cs ∧ ns.length < 900 then .ok .nx L (S2.set n (.ins c (fPut f d ns ds).1 (fPut f d ns ds).2)) else .no
    | _ => .no
  | _ => .no
/-- o.f op= e -/
def sFlA (cs : List Str) (f : Str) (oo : D → D → Option D) (mo mv : EM) : SM := fun L S => (mo L S).st L fun o S1 => match o with
  | .obj n => match S1[n]? with
    | some (.ins c ns ds) => if c ∈ cs then match fGet f ns ds with
      | some x => (mv L S1).st L fun y S2 => match oo (deref S2 x) (deref S2 y) with
        | some z => match S2[n]? with
          | some (.ins c' ns' ds') => if c' = c ∧ ns'.length < 900 then .ok .nx L (S2.set n (.ins c' (fPut f z ns' ds').1 (fPut f z ns' ds').2)) else .no
          | _ => .no
        | none => .no
      | none => .no
      else .no
    | _ => .no
  | _ => .no
theorem zip_lt {α : Type} {ns : List Str} {vs : List α} (h : ns.length < 900) : (ns.zip vs).length < 1000 := by
  rw [List.length_zip]; omega
section
variable {X : Cx} {W : WX} {o e : Expr} {f : Str} {pos pos' tpos : Pos} {cs : List Str} {mo mv : EM}
theorem se_fld (h : FldK X.K X.mg cs f) (ho : SE X W o mo) (hb : attributeBase o f X.env (eval o X.env) = eval o X.env) : SE X W (.Attribute o f pos) (eFl cs f mo) :=
  PE.imp (pe_fld ho hb) fun σ H Q ⟨L, S, g, l, w, p⟩ => ⟨L, S, g, l, w, Post.bind p fun d S1 v H1 g1 e1 w1 r1 p1 => by
    split at p1
    · rename_i c ns ds q
      split at p1
      · rename_i hc
        obtain ⟨a, C, dx, vs, rfl, hC, ha, rl⟩ := insOf_rep w1 r1 q
        obtain ⟨C', hC', cl, na⟩ := h c hc
        have hC0 : X.mg c = some (.ref C) := hC
        rw [hC0] at hC'
        cases hC'
        cases z : fGet f ns ds with
        | none => rw [z] at p1; exact p1.elim
        | some d =>
          rw [z] at p1
          obtain ⟨v, hv, rv⟩ := fGet_rep rl z
          exact ⟨a, C, dx, _, v, rfl, ha, cl, na, by rw [fGet_zip]; exact hv, Post.ret p1 w1 rv⟩
      · exact p1.elim
    · exact p1.elim⟩
theorem ins_put {k : Kx} {H : Hp} {g : G} {S : Sto} {n : Nat} {c : Str} {ns : List Str} {ds : List D} {C dx : Addr} {vs : List V} {d : D} {v : V} (w : WF k H g S) (hn : S[n]? = some (.ins c ns ds)) (hC : k.mg c = some (.ref C))
    (rl : RepL k H g ds vs) (r : Rep k H g d v) : ORep k (upd H (g.ρ n) (.ins C dx (putF f v (ns.zip vs)))) g (.ins c (fPut f d ns ds).1 (fPut f d ns ds).2) (g.ρ n) := by
  have pe := w.pe (u := .ins C dx (putF f v (ns.zip vs))) hn
  refine ⟨C, dx, (fPut f v ns vs).2, hC, ?_, (fPut_rep r rl).mono pe _ _⟩
  rw [upd_same, fPut_zip, fPut_ns f v d ns vs ds rl.length]
theorem ss_fld (h : FldK X.K X.mg cs f) (ho : SE X W o mo) (he : SE X W e mv) (hs : swapsWith e (some (.Attribute o f pos')) pos.line X.env = pure false) : SS X W (.Assign [.Attribute o f pos'] e pos) (sFl cs f mo mv) :=
  PS.imp (ps_fld ho he hs) fun D σ H ⟨L, S, g, B, gB, fr, p⟩ =>
    ⟨L, S, g, fr.loc, fr.wf, st_e fr p fun d S1 v H1 g1 f1 e1 r p1 => ⟨L, S1, g1, f1.loc, f1.wf, st_e f1 p1 fun od S2 w H2 g2 f2 e2 r2 p2 => by
      split at p2
      · rename_i n
        obtain ⟨hn, rfl⟩ := r2
        split at p2
        · rename_i c ns ds q
          split at p2
          · rename_i hc
            obtain ⟨C, dx, vs, hC, ha, rl⟩ := f2.wf.ob n _ q
            obtain ⟨C', hC', cl, na⟩ := h c hc.1
            have hC0 : X.mg c = some (.ref C) := hC
            rw [hC0] at hC'
            cases hC'
            obtain ⟨f3, pe⟩ := f2.chgS q (ins_put (f := f) (dx := dx) f2.wf q hC rl (r.mono e2.toPExt _ _))
            exact ⟨_, C, dx, _, rfl, ha, cl, na, zip_lt hc.2, p2 σ _ g2 f3 pe⟩
          · exact p2.elim
        · exact p2.elim
      · exact p2.elim⟩⟩
end
end Rf
set_option Elab.async false
set_option linter.all false
set_option maxRecDepth 100000
set_option maxHeartbeats 1000000
namespace Rf
open PySem L2 TL
/-- m is, for the class c, a def that does F -/
structure MthC (X : Cx) (m : Str) (c : Str) (F : Fn) : Prop where
  ex : ∃ (C f : Addr) (fd : FuncData) (ps : List Str) (j : Nat), X.mg c = some (.ref C) ∧ Cls X.K C ∧ Meth X.K C m f ∧ FnOkG X.prog X.w X.K X.mg X.base (L2.CX X.prog X.w) j f fd ps (spC (k0 X.K X.mg X.w) F) ∧ RoomG j X.A ∧ Binds X.K fd ps []
def MthT (X : Cx) (m : Str) (ms : List (Str × Fn)) : Prop := ∀ c F, ms.lookup c = some F → MthC X m c F
theorem mth_nil {X : Cx} {m : Str} : MthT X m [] := fun _ _ h => by cases h
theorem mth_cons {X : Cx} {m c : Str} {F : Fn} {ms : List (Str × Fn)} (h : MthC X m c F) (t : MthT X m ms) : MthT X m ((c, F) :: ms) := fun c' F' e => by
  rw [List.lookup_cons] at e
  split at e
  · rename_i q
    cases e
    rw [eq_of_beq q]
    exact h
  · exact t _ _ e
def eMt (m : Str) (ms : List (Str × Fn)) (mo : EM) (ma : Ls → Sto → R (List D)) : EM := fun L S => (mo L S).bind fun d S1 => match insOf S1 d with
  | some (c, ns, ds) => match ms.lookup c, fGet m ns ds with
    | some F, none => (ma L S1).bind fun as S2 => F (d :: as) S2
    | _, _ => .no
  | none => .no
section
variable {X : Cx} {W : WX} {o e : Expr} {m x : Str} {pos apos p : Pos} {es : List Expr} {ms : List (Str × Fn)} {mo : EM} {ma : Ls → Sto → R (List D)}
theorem meth_read {σ : L2.St} {H : Hp} {Q : VK} (T : MthT X m ms) (h : tE (kx X) W (eMt m ms mo ma) σ H Q) :
    tE (kx X) W mo σ H fun x H1 => ∃ a C dx fs f fd ps j F, x = .ref a ∧ H1 a = some (.ins C dx fs) ∧ Cls X.K C ∧ Meth X.K C m f ∧ FnOkG X.prog X.w X.K X.mg X.base (L2.CX X.prog X.w) j f fd ps (spC (k0 X.K X.mg X.w) F) ∧ RoomG j X.A ∧ Binds X.K fd ps [] ∧
      fs.lookup m = none ∧ tAE (kx X) W ma σ H1 fun vs H2 => spC (k0 X.K X.mg X.w) F (x :: vs) H2 Q (L2.WE W σ) := by
  obtain ⟨L, S, g, l, w, p⟩ := h
  refine ⟨L, S, g, l, w, Post.bind p fun d S1 v H1 g1 e1 w1 r1 p1 => ?_⟩
  split at p1
  · rename_i c ns ds q
    split at p1
    · rename_i F hF hn
      obtain ⟨a, C, dx, vs, rfl, hC, ha, rl⟩ := insOf_rep w1 r1 q
      obtain ⟨C', f, fd, ps, j, hC', cl, mt, F', hr, hb⟩ := (T c F hF).ex
      have hC0 : X.mg c = some (.ref C) := hC
      rw [hC0] at hC'
      cases hC'
      refine ⟨a, C, dx, _, f, fd, ps, j, F, rfl, ha, cl, mt, F', hr, hb, by rw [fGet_zip]; exact fGet_none rl hn, L, S1, g1, l.ext e1, w1, Post.bind p1 fun as S2 us H2 g2 e2 w2 r2 p2 => ?_⟩
      exact spC.kc (k := kx X) rfl rfl rfl ⟨d :: as, S2, g2, .cons (r1.mono e2.toPExt _ _) r2, w2, p2⟩
    · exact p1.elim
  · exact p1.elim
theorem se_meth {pl : Sem Bool} (T : MthT X m ms) (tk : Takes X W) (ho : SE X W o mo) (ha : SAE X W (e :: es) ma) (hs : (e :: es).all noStar = true)
    (ht : eval (.Call (.Attribute o m apos) (e :: es) [] pos) X.env = (do
      let ov ← eval o X.env
      standAt apos.atName
      let (f, first) ← holding [ov] (getMethod ov m pl)
      callWith pos f first (backTo pos (starEach (e :: es) X.env)) (backToKw pos (keywordEach [] X.env)))) : SE X W (.Call (.Attribute o m apos) (e :: es) [] pos) (eMt m ms mo ma) := by
  refine ⟨fun pins s σ H Q I h => ?_⟩
  have hs' : noStar e = true ∧ es.all noStar = true := by rwa [List.all_cons, Bool.and_eq_true] at hs
  refine PySem.W.methodCall_KW (pl := pl) (thn (ho.run pins s σ H _ I (meth_read T h)) fun u s1 ⟨x, H1, I1, rx, a, C, dx, fs, f, fd, ps, j, F, ex, ea, c, hm, F', hr, hb, l, q⟩ => ?_) ht
  subst ex
  obtain rfl : u = Value.ref a := rx
  refine getmeth_ok I1 ea c hm l ?_
  refine PySem.W.callWith_K (first := [.ref a]) (h₀ := X.base) I.ok.mod.kin hm.kp (thn (ha.run pos pins s1 σ H1 _ I1 q) fun us s2 ⟨vs, H2, I2, r, q2⟩ => ⟨I2.kIn, ?_⟩) (star_cons hs'.1) (star_any hs'.2)
  exact run_fnG0 (us := .ref a :: us) (vs := .ref a :: vs) F' hr hb (passAt tk σ) I2 (.cons rfl r) q2
theorem se_meth0 {pl : Sem Bool} (T : MthT X m ms) (tk : Takes X W) (ho : SE X W o mo)
    (ht : eval (.Call (.Attribute o m apos) [] [] pos) X.env = (do
      let ov ← eval o X.env
      standAt apos.atName
      let (f, first) ← holding [ov] (getMethod ov m pl)
      callWith pos f first (backTo pos (starEach [] X.env)) (backToKw pos (keywordEach [] X.env)))) : SE X W (.Call (.Attribute o m apos) [] [] pos) (eMt m ms mo aNil) := by
  refine ⟨fun pins s σ H Q I h => ?_⟩
  refine PySem.W.methodCall_KW (pl := pl) (thn (ho.run pins s σ H _ I (meth_read T h)) fun u s1 ⟨x, H1, I1, rx, a, C, dx, fs, f, fd, ps, j, F, ex, ea, c, hm, F', hr, hb, l, q⟩ => ?_) ht
  subst ex
  obtain rfl : u = Value.ref a := rx
  refine getmeth_ok I1 ea c hm l ?_
  obtain ⟨L, S, g, l2, w, p⟩ := q
  refine PySem.W.callWith_K0 (first := [.ref a]) I1.kIn hm.kp ?_
  exact run_fnG0 (us := [.ref a]) (vs := [.ref a]) F' hr hb (passAt tk σ) I1 (.cons rfl .nil) (Post.ret p w (show RepL (kx X) H1 g [] [] from rfl))
def mkR (n : Nat) : R D → R D
  | .ok .non S => .ok (.obj n) S
  | _ => .no
def eMk (c : Str) (F : Fn) (ma : Ls → Sto → R (List D)) : EM := fun L S => (ma L S).bind fun ds S1 => mkR S1.length (F (.obj S1.length :: ds) (S1 ++ [.ins c [] []]))
theorem no_cxF {P : Program} {w : World} {outer : List Env} {H : Hp} {s : Shared} {e : Value} {s' : Shared} (h : L2.CX P w outer H s (fun _ _ _ => False) e s') : False := by
  obtain ⟨_, _, _, _, _, _, _, _, _, _, _, _, h⟩ := h
  exact h
theorem mk_sp {c : Str} {F : Fn} {C : Addr} {k : Kx} {ds : List D} {vs : List V} {S1 : Sto} {H1 : Hp} {g1 : G} {Q : VK} {Wf : Value → Option Addr → Hp → Prop} (hC : k.mg c = some (.ref C)) (w1 : WF k H1 g1 S1) (r1 : RepL k H1 g1 ds vs)
    (p1 : Post k (Rep k) H1 g1 Wf (mkR S1.length (F (.obj S1.length :: ds) (S1 ++ [.ins c [] []]))) Q) {x dx : Addr} (hx : H1 x = none) (hd : H1 dx = none) (hne : dx ≠ x) :
    spC k F (.ref x :: vs) (upd (upd H1 dx (.own x)) x (.ins C dx [])) (fun v H2 => v = .non ∧ Q (.ref x) H2) (fun _ _ _ => False) := by
  have e2 : Ext H1 g1 (upd H1 dx (.own x)) g1 := Ext.new hd
  have hx' : upd H1 dx (.own x) x = none := by rw [upd_ne (Ne.symm hne)]; exact hx
  have e3 : Ext (upd H1 dx (.own x)) g1 (upd (upd H1 dx (.own x)) x (.ins C dx [])) (g1.push x) := Ext.newPush hx'
  have w3 : WF k (upd (upd H1 dx (.own x)) x (.ins C dx [])) (g1.push x) (S1 ++ [.ins c [] []]) := (w1.new hd).newPush hx' ⟨C, dx, [], hC, upd_same, rfl⟩
  have rx : Rep k (upd (upd H1 dx (.own x)) x (.ins C dx [])) (g1.push x) (.obj S1.length) (.ref x) := ⟨by rw [w1.len]; exact Nat.lt_succ_self _, by
    rw [w1.len]
    show _ = V.ref (if g1.n = g1.n then x else g1.ρ g1.n)
    rw [if_pos rfl]⟩
  refine ⟨.obj S1.length :: ds, _, _, .cons rx (r1.mono (e2.trans e3).toPExt _ _), w3, ?_⟩
  cases q : F (.obj S1.length :: ds) (S1 ++ [.ins c [] []]) with
  | no => rw [q] at p1; exact p1.elim
  | ex y S => rw [q] at p1; exact p1.elim
  | ok d S2 =>
    rw [q] at p1
    cases d with
    | non => exact fun v H' g' e w r => ⟨r, p1 _ H' g' ((e2.trans e3).trans e) w (rx.mono e.toPExt _ _)⟩
    | _ => exact p1.elim
def DflR (k : Kx) (dds : List D) (dvs : List V) : Prop := ∀ H g, RepL k H g dds dvs
def eFnD (c : Fn) (dds : List D) (ma : Ls → Sto → R (List D)) : EM := fun L S => (ma L S).bind fun ds S1 => c (ds ++ dds) S1
def eFnK (c : Fn) (n m : Nat) (ma mk : Ls → Sto → R (List D)) : EM := fun L S => (ma L S).bind fun ds S1 => (mk L S1).bind fun zs S2 => if ds.length = n ∧ zs.length = m then match c (ds ++ zs) S2 with
  | .ok d S3 => .ok d S3
  | _ => .no
  else .no
def eCaL (i : Nat) (fs : List (Str × Fn)) (ma : Ls → Sto → R (List D)) : EM := fun L S => match L[i]? with
  | some (.v (.gl x)) => match fs.lookup x with
    | some F => (ma L S).bind F
    | none => .no
  | _ => .no
end
end Rf
set_option Elab.async false
set_option linter.all false
set_option maxRecDepth 100000
set_option maxHeartbeats 1000000
namespace Rf
open PySem L2 TL
/-- what is looked up: none where nothing is known -/
def dLook (S : Sto) (o y : D) : Option (Option D) := match o with
  | .obj n => match S[n]? with
    | some (.dK kvs) => (kKey y).map (dGetK kvs)
    | _ => none
  | _ => none
/-- {}: a new one -/
def eNwK : EM := fun _ S => .ok (.obj S.length) (S ++ [.dK []])
def eGetO (mo mk : EM) : EM := fun L S => (mo L S).bind fun o S1 => (mk L S1).bind fun y S2 => match dLook S2 o y with
  | some (some d) => .ok d S2
  | _ => .no
def eInO (neg : Bool) (mk mo : EM) : EM := fun L S => (mk L S).bind fun y S1 => (mo L S1).bind fun o S2 => match dLook S2 o y with
  | some r => .ok (.bl (neg != r.isSome)) S2
  | none => .no
/-- d.get(k, x) -/
def eGet2 (mo mk md : EM) : EM := fun L S => (mo L S).bind fun o S1 => match dLook S1 o (.int 0) with
  | some _ => (mk L S1).bind fun y S2 => (md L S2).bind fun z S3 => match dLook S3 o y with
    | some r => .ok (r.getD z) S3
    | none => .no
  | none => .no
/-- d[k] = v -/
def sPutD (mo mk mv : EM) : SM := fun L S => (mv L S).st L fun d S1 => (mo L S1).st L fun o S2 => (mk L S2).st L fun y S3 => match o, kKey y with
  | .obj n, some q => match S3[n]? with
    | some (.dK kvs) => if kvs.length < sizeLine then .ok .nx L (S3.set n (.dK (dPutK kvs q d))) else .no
    | _ => .no
  | _, _ => .no
/-- d.setdefault(k, v) -/
def eSetK (mo mk md : EM) : EM := fun L S => (mo L S).bind fun o S1 => match dLook S1 o (.int 0) with
  | some _ => (mk L S1).bind fun y S2 => (md L S2).bind fun z S3 => match o, kKey y with
    | .obj n, some q => match S3[n]? with
      | some (.dK kvs) => if kvs.length < sizeLine then match dGetK kvs q with
        | some d => .ok d S3
        | none => .ok z (S3.set n (.dK (dPutK kvs q z)))
        else .no
      | _ => .no
    | _, _ => .no
  | none => .no
section
variable {k : Kx} {H : Hp} {g : G} {S : Sto}
theorem KVK.look {q : Key} {kvs : DctK} {ws : List (Key × V)} (r : KVK k H g kvs ws) : (∀ d, dGetK kvs q = some d → ∃ v, valV ws q = some v ∧ Rep k H g d v) ∧ (dGetK kvs q = none → valV ws q = none) := by
  refine ⟨fun d h => r.get h, fun h => ?_⟩
  have e := r.any (q := q)
  rw [valV_any] at e
  have e2 : (kvs.any fun kv => decide (kv.1 = q)) = (dGetK kvs q).isSome := by
    unfold dGetK
    rw [Option.isSome_map, Bool.eq_iff_iff, List.any_eq_true, List.find?_isSome]
  rw [e2, h] at e
  cases z : valV ws q with
  | none => rfl
  | some v => rw [z] at e; cases e
theorem dLook_rep {o y : D} {x w : V} {r : Option D} (wf : WF k H g S) (ro : Rep k H g o x) (ry : Rep k H g y w) (h : dLook S o y = some r) : ∃ a kvs q ws, x = .ref a ∧ w = kV q ∧ H a = some (.dK ws) ∧ KVK k H g kvs ws ∧ r = dGetK kvs q := by
  unfold dLook at h
  split at h
  · rename_i n
    obtain ⟨hn, rfl⟩ := ro
    split at h
    · rename_i kvs e
      obtain ⟨q, hq, rfl⟩ := Option.map_eq_some_iff.mp h
      obtain ⟨ws, hw, rw⟩ := orK.mp (wf.ob n _ e)
      exact ⟨_, kvs, q, ws, rfl, kKey_ok hq ry, hw, rw, rfl⟩
    · cases h
  · cases h
theorem dLook_is {o : D} {x : V} {r : Option D} (wf : WF k H g S) (ro : Rep k H g o x) (h : dLook S o (.int 0) = some r) : ∃ n kvs, o = .obj n ∧ x = .ref (g.ρ n) ∧ S[n]? = some (.dK kvs) ∧ IsD H (g.ρ n) := by
  unfold dLook at h
  split at h
  · rename_i n
    obtain ⟨hn, rfl⟩ := ro
    split at h
    · rename_i kvs e
      obtain ⟨ws, hw, rw⟩ := orK.mp (wf.ob n _ e)
      exact ⟨n, kvs, rfl, rfl, e, .inl ⟨ws, .inl hw⟩⟩
    · cases h
  · cases h
end
section
variable {X : Cx} {W : WX} {o e f ix : Expr} {pos pos' ps apos cpos : Pos} {mo mk mv md : EM}
theorem se_nwK : SE X W (.Dict [] [] pos) eNwK :=
  PE.imp pe_dnewK fun σ H Q ⟨L, S, g, l, w, p⟩ => fun q hq => by
    have w2 : WF (kx X) (upd H q (.dK [])) (g.push q) (S ++ [.dK []]) := w.newPush hq ⟨[], upd_same, rfl⟩
    refine p (.ref q) _ (g.push q) (Ext.newPush hq) w2 ⟨by rw [w.len]; exact Nat.lt_succ_self _, ?_⟩
    rw [w.len]
    show _ = V.ref (if g.n = g.n then q else g.ρ g.n)
    rw [if_pos rfl]
theorem se_getO (hu : X.A.units + 1 < cLine) (ho : SE X W o mo) (hi : SE X W ix mk) (hs : NoSl ix) : SE X W (.Subscript o ix pos) (eGetO mo mk) :=
  PE.imp (pe_dget hu ho hi hs) fun σ H Q ⟨L, S, g, l, w, p⟩ => ⟨L, S, g, l, w, Post.bind p fun od S1 x H1 g1 e1 w1 r1 p1 => ⟨L, S1, g1, l.ext e1, w1, Post.bind p1 fun y S2 v H2 g2 e2 w2 r2 p2 => by
    split at p2
    · rename_i d q
      obtain ⟨a, kvs, q, ws, rfl, rfl, ha, rw, er⟩ := dLook_rep w2 (r1.mono e2.toPExt _ _) r2 q
      obtain ⟨v, hv, rv⟩ := rw.look.1 d er.symm
      refine ⟨a, v, rfl, ?_, Post.ret p2 w2 rv⟩
      rw [← hv]
      exact DGet.k ha
    · exact p2.elim⟩⟩
theorem in_look {H : Hp} {g : G} {S : Sto} {od y : D} {x v : V} {r : Option D} {k : Kx} (w2 : WF k H g S) (r1 : Rep k H g od x) (r2 : Rep k H g y v) (q : dLook S od y = some r) : ∃ a o, x = .ref a ∧ DGet H a v o ∧ o.isSome = r.isSome := by
  obtain ⟨a, kvs, q, ws, rfl, rfl, ha, rw, er⟩ := dLook_rep w2 r1 r2 q
  refine ⟨a, _, rfl, DGet.k ha, ?_⟩
  cases z : dGetK kvs q with
  | none => rw [er, z, rw.look.2 z]; rfl
  | some d =>
    obtain ⟨v, hv, _⟩ := rw.look.1 d z
    rw [er, z, hv]; rfl
theorem notIn_read {σ : L2.St} {H : Hp} {Q : VK} {k : Kx} (h : tE k W (eInO true mk mo) σ H Q) : tDNotIn (tE k W mk) (tE k W mo) σ H Q := by
  obtain ⟨L, S, g, l, w, p⟩ := h
  exact ⟨L, S, g, l, w, Post.bind p fun y S1 v H1 g1 e1 w1 r1 p1 => ⟨L, S1, g1, l.ext e1, w1, Post.bind p1 fun od S2 x H2 g2 e2 w2 r2 p2 => by
    split at p2
    · rename_i r q
      obtain ⟨a, o, hx, hd, he⟩ := in_look w2 r2 (r1.mono e2.toPExt _ _) q
      refine ⟨a, o, hx, hd, ?_⟩
      rw [he]
      have : (true != r.isSome) = !r.isSome := by cases r.isSome <;> rfl
      rw [this] at p2
      exact Post.ret p2 w2 rfl
    · exact p2.elim⟩⟩
theorem ss_putD (hu : X.A.units + 1 < cLine) (ho : SE X W o mo) (hi : SE X W ix mk) (he : SE X W e mv) (hs : swapsWith e (some (.Subscript o ix ps)) pos.line X.env = pure false) :
    SS X W (.Assign [.Subscript o ix ps] e pos) (sPutD mo mk mv) :=
  PS.imp (ps_dput hu ho hi he hs) fun D σ H ⟨L, S, g, B, gB, f, p⟩ =>
    ⟨L, S, g, f.loc, f.wf, st_e f p fun d S1 v H1 g1 f1 e1 r p1 => ⟨L, S1, g1, f1.loc, f1.wf, st_e f1 p1 fun od S2 x H2 g2 f2 e2 r2 p2 => ⟨L, S2, g2, f2.loc, f2.wf, st_e f2 p2 fun y S3 w H3 g3 f3 e3 r3 p3 => by
      split at p3
      · rename_i n q hq
        obtain ⟨hn, rfl⟩ := r2.mono e3.toPExt _ _
        split at p3
        · rename_i kvs z
          split at p3
          · rename_i hl
            obtain rfl := kKey_ok hq r3
            obtain ⟨ws, hw, rw⟩ := orK.mp (f3.wf.ob n _ z)
            have pe := f3.wf.pe (u := .dK (putK ws q v)) z
            obtain ⟨f4, pe4⟩ := f3.chgS (o' := .dK (dPutK kvs q d)) (u := .dK (putK ws q v)) z (orK.mpr ⟨_, upd_same, KVK.put (rw.mono pe) ((r.mono (e2.trans e3).toPExt _ _).mono pe _ _)⟩)
            exact ⟨_, _, rfl, DPut.k hw (by rw [rw.lenK]; exact hl), p3 σ _ g3 f4 pe4⟩
          · exact p3.elim
        · exact p3.elim
      · exact p3.elim⟩⟩⟩
theorem st_notInO (hu : X.A.units + 1 < cLine) (hi : SE X W e mk) (ho : SE X W o mo) (hm : behindInMarks .NotIn o = false) : ST X W (.Compare e [.NotIn] [o] pos) (tOfE (eInO true mk mo)) :=
  PT.imp (pt_cmp (pc_dnotin hu hi ho) hm) fun σ H Q h => notIn_read (tt_of h)
/-- what the written method call has to be -/
theorem m2_by {m : Str} (h1 : notSuper o = true) (h2 : noStar e = true) (h3 : noStar f = true) (h4 : (apos.endLine == cpos.line) = true) : M2 X o m apos e f cpos where
  base := not_super h1
  few := by
    rw [star_cons h2, star_cons h3]
    rfl
  line := h4
  trees := by
    rw [star_cons h2, star_cons h3]
    rfl
theorem se_setK (ho : SE X W o mo) (he : SE X W e mk) (hf : SE X W f md) (h1 : notSuper o = true) (h2 : noStar e = true) (h3 : noStar f = true) (h4 : (apos.endLine == cpos.line) = true) :
    SE X W (.Call (.Attribute o "setdefault" apos) [e, f] [] cpos) (eSetK mo mk md) :=
  PE.imp (pe_dsetd ho he hf (m2_by h1 h2 h3 h4)) fun σ H Q ⟨L, S, g, l, w, p⟩ => ⟨L, S, g, l, w, Post.bind p fun od S1 x H1 g1 e1 w1 r1 p1 => by
    split at p1
    · rename_i z hz
      obtain ⟨n, kvs0, rfl, rfl, hS, hd⟩ := dLook_is w1 r1 hz
      refine ⟨_, rfl, hd, L, S1, g1, l.ext e1, w1, Post.bind p1 fun y S2 v H2 g2 e2 w2 r2 p2 => ⟨L, S2, g2, (l.ext e1).ext e2, w2, Post.bind p2 fun zd S3 u H3 g3 e3 w3 r3 p3 => ?_⟩⟩
      obtain ⟨hn, hρ⟩ := (r1.mono e2.toPExt _ _).mono e3.toPExt _ _
      have hρ' := V.ref.inj hρ
      rw [hρ']
      split at p3
      · rename_i n' q eo hq
        cases eo
        obtain rfl := kKey_ok hq (r2.mono e3.toPExt _ _)
        split at p3
        · rename_i kvs hS3
          split at p3
          · rename_i hl
            obtain ⟨ws, hw, rw⟩ := orK.mp (w3.ob n _ hS3)
            refine ⟨ws, q, hw, rfl, by rw [rw.lenK]; exact hl, fun v hv => ?_, fun hv => ?_⟩
            · cases z2 : dGetK kvs q with
              | none => rw [rw.look.2 z2] at hv; cases hv
              | some d =>
                rw [z2] at p3
                obtain ⟨v', hv', rv⟩ := rw.look.1 d z2
                rw [hv] at hv'
                cases hv'
                exact Post.ret p3 w3 rv
            · cases z2 : dGetK kvs q with
              | some d =>
                obtain ⟨v', hv', rv⟩ := rw.look.1 d z2
                rw [hv] at hv'; cases hv'
              | none =>
                rw [z2] at p3
                have pe := w3.pe (u := .dK (putK ws q u)) hS3
                obtain ⟨e4, w4⟩ := w3.chg (o' := .dK (dPutK kvs q zd)) (u := .dK (putK ws q u)) hS3 (orK.mpr ⟨_, upd_same, KVK.put (rw.mono pe) (r3.mono pe _ _)⟩)
                exact p3 _ _ _ e4 w4 (r3.mono pe _ _)
          · exact p3.elim
        · exact p3.elim
      · exact p3.elim
    · exact p1.elim⟩
end
end Rf
set_option Elab.async false
set_option linter.all false
set_option maxRecDepth 100000
set_option maxHeartbeats 1000000
namespace Rf
open PySem L2 TL
mutual
def kN : D → Option NestedKey
  | .non => some .none
  | .int i => some (.num i)
  | .str x => some (.text ⟨x.toArray⟩)
  | .tup ds => (kNs ds).map .tup
  | _ => none
def kNs : List D → Option (List NestedKey)
  | [] => some []
  | d :: ds => match kN d, kNs ds with
    | some k, some ks => some (k :: ks)
    | _, _ => none
end
mutual
theorem kN_ok {k : Kx} {H : Hp} {g : G} : ∀ (d : D) (v : V) (q : NestedKey), kN d = some q → Rep k H g d v → KIs k.K H q v
  | .non, _, _, h, r => by simp only [kN] at h; cases h; exact r
  | .int i, _, _, h, r => by simp only [kN] at h; cases h; exact r
  | .str x, _, _, h, r => by simp only [kN] at h; cases h; exact r
  | .tup ds, v, q, h, r => by
    simp only [kN, Option.map_eq_some_iff] at h
    obtain ⟨ks, h, rfl⟩ := h
    obtain ⟨a, vs, e, t, rl⟩ := r
    exact ⟨a, vs, e, t.k, kNs_ok ds vs ks h rl⟩
  | .bl _, _, _, h, _ => by simp only [kN] at h; cases h
  | .lst _, _, _, h, _ => by simp only [kN] at h; cases h
  | .obj _, _, _, h, _ => by simp only [kN] at h; cases h
  | .gl _, _, _, h, _ => by simp only [kN] at h; cases h
  | .ty _, _, _, h, _ => by simp only [kN] at h; cases h
  | .scr _, _, _, h, _ => by simp only [kN] at h; cases h
  | .edc, _, _, h, _ => by simp only [kN] at h; cases h
  | .ins _ _ _, _, _, h, _ => by simp only [kN] at h; cases h
theorem kNs_ok {k : Kx} {H : Hp} {g : G} : ∀ (ds : List D) (vs : List V) (qs : List NestedKey), kNs ds = some qs → RepL k H g ds vs → KIsL k.K H qs vs
  | [], _, _, h, r => by simp only [kNs] at h; cases h; exact r
  | d :: ds, _, qs, h, ⟨v, t, e, r1, r2⟩ => by
    simp only [kNs] at h
    split at h
    · rename_i q qs' h1 h2
      cases h
      exact ⟨v, t, e, kN_ok d v q h1 r1, kNs_ok ds t qs' h2 r2⟩
    · cases h
end
/-- a key of such a dict: a tuple, not too deep -/
def kNk : D → Option NestedKey
  | .tup ds => (kN (.tup ds)).bind fun q => if q.depth ≤ 8 then some q else none
  | _ => none
abbrev DctN := List (NestedKey × D)
def nGet (kvs : DctN) (q : NestedKey) : Option D := (kvs.find? fun kv => decide (kv.1 = q)).map (·.2)
def nVal (es : NEnt) (q : NestedKey) : Option V := (es.find? fun e => decide (e.1 = q)).map (·.2.2)
def nXs : NEnt → List Value → List (NestedKey × Addr × Value)
  | [], _ => []
  | _ :: _, [] => []
  | e :: es, u :: us => (e.1, e.2.1, u) :: nXs es us
theorem nEs_eq {P : Program} {w : World} : ∀ (es : NEnt) (us : List Value), nEs w es us = (nXs es us).map (entryOfKey (nestedKind P w))
  | [], _ => rfl
  | _ :: _, [] => rfl
  | e :: es, u :: us => by
    rw [nEs, nXs, List.map_cons, ← nEs_eq es us]
    rfl
theorem nXs_fst : ∀ {es : NEnt} {us : List Value}, us.length = es.length → (nXs es us).map (·.1) = es.map (·.1)
  | [], _, _ => rfl
  | _ :: _, [], h => by cases h
  | e :: es, u :: us, h => by rw [nXs, List.map_cons, List.map_cons, nXs_fst (by simpa using h)]
theorem nXs_len : ∀ {es : NEnt} {us : List Value}, us.length = es.length → (nXs es us).length = es.length
  | [], _, _ => rfl
  | _ :: _, [], h => by cases h
  | e :: es, u :: us, h => by rw [nXs, List.length_cons, List.length_cons, nXs_len (by simpa using h)]
theorem nXs_mem : ∀ {es : NEnt} {us : List Value} {x : NestedKey × Addr × Value}, x ∈ nXs es us → ∃ e ∈ es, x.1 = e.1 ∧ x.2.1 = e.2.1
  | [], _, _, h => by simp [nXs] at h
  | _ :: _, [], _, h => by simp [nXs] at h
  | e :: es, u :: us, x, h => by
    rw [nXs, List.mem_cons] at h
    rcases h with rfl | h
    · exact ⟨e, List.mem_cons_self, rfl, rfl⟩
    · obtain ⟨e', h1, h2⟩ := nXs_mem h
      exact ⟨e', List.mem_cons_of_mem _ h1, h2⟩
theorem nXs_snoc {q : NestedKey} {a : Addr} {v : V} {u : Value} : ∀ {es : NEnt} {us : List Value}, us.length = es.length → nXs es us ++ [(q, a, u)] = nXs (es ++ [(q, a, v)]) (us ++ [u])
  | [], [], _ => rfl
  | [], _ :: _, h => by cases h
  | _ :: _, [], h => by cases h
  | e :: es, u' :: us, h => by
    rw [nXs, List.cons_append, List.cons_append, List.cons_append, nXs, nXs_snoc (v := v) (by simpa using h)]
theorem nXs_get {q : NestedKey} : ∀ {es : NEnt} {us : List Value}, Vals (es.map (·.2.2)) us → (∀ v, nVal es q = some v → ∃ p, atKey (nXs es us) q = some p ∧ RelV v p.2) ∧ (nVal es q = none → atKey (nXs es us) q = none)
  | [], _, _ => ⟨fun v h => (by cases h), fun _ => rfl⟩
  | e :: es, us, r => by
    cases r with
    | cons r1 r2 =>
      rename_i u us
      obtain ⟨i1, i2⟩ := nXs_get (q := q) r2
      unfold nVal atKey
      rw [nXs]
      by_cases h : e.1 = q
      · rw [List.find?_cons, List.find?_cons, decide_eq_true h]
        refine ⟨fun v hv => ?_, fun hv => ?_⟩
        · cases hv
          exact ⟨(e.2.1, u), by simp [h], r1⟩
        · cases hv
      · rw [List.find?_cons, List.find?_cons, decide_eq_false h]
        have hd : decide ((e.1, e.2.1, u).1 = q) = false := decide_eq_false h
        try rw [hd]
        exact ⟨i1, i2⟩
section
variable {X : Cx} {pins : List (Addr × Obj)} {σ : L2.St} {H : Hp} {s : Shared} {a : Addr}
mutual
theorem nest_of (I : Inv X pins σ H s) : ∀ (q : NestedKey) (v : V) (u : Value), KIs X.K H q v → RelV v u → NestedIs s.heap q u
  | .none, _, _, h, r => by cases h; cases (show _ = Value.none from r); exact .none
  | .num i, _, _, h, r => by
    cases h
    obtain ⟨t, rfl⟩ := (show ∃ t, _ = Value.int i t from r)
    exact .int i t
  | .text x, _, _, h, r => by
    cases h
    obtain ⟨t, rfl⟩ := (show ∃ t, _ = Value.str x t from r)
    exact .text x t
  | .tup ks, _, _, ⟨b, vs, e, t, rl⟩, r => by
    subst e
    cases (show _ = Value.ref b from r)
    obtain ⟨its, rv, hl, hz⟩ := I.tuple t.sq
    obtain ⟨o, h1, h2, n, h3⟩ := hl
    exact .tup h1 h2 h3 (by simpa using nests_of I ks vs its rl rv)
theorem nests_of (I : Inv X pins σ H s) : ∀ (qs : List NestedKey) (vs : List V) (us : List Value), KIsL X.K H qs vs → Vals vs us → NestedAll s.heap qs us
  | [], _, _, h, r => by cases h; cases r; exact .nil
  | q :: qs, _, _, ⟨v, t, e, h1, h2⟩, r => by
    subst e
    cases r with
    | cons r1 r2 => exact .cons (nest_of I q v _ h1 r1) (nests_of I qs t _ h2 r2)
end
theorem nd_at {es : NEnt} (I : Inv X pins σ H s) (e : H a = some (NDx X.w a es)) : es.length ≤ sizeLine ∧ (a == sysModules) = false ∧ ∃ (us : List Value) (o : Obj) (des : Array DictEntry) (ep : Nat),
    Vals (es.map (·.2.2)) us ∧ s.heap.get? a = some o ∧ o.ExactDict ∧ o.data = .dict des ep ∧ des.toList = nEs X.w es us := (I.hok a _ e).1
theorem nd_dict {es : NEnt} (I : Inv X pins σ H s) (e : H a = some (NDx X.w a es)) (nd : (es.map (·.1)).Nodup) (hk : NKeys X.K H es) :
    ∃ us, Vals (es.map (·.2.2)) us ∧ us.length = es.length ∧ s.heap.DictOfH (nestedKind X.prog X.w) a (nXs es us) := by
  obtain ⟨hz, hs, us, o, des, ep, rv, h1, h2, h3, h4⟩ := nd_at I e
  have hl : us.length = es.length := by rw [← rv.length, List.length_map]
  refine ⟨us, rv, hl, o, des, ep, h1, h2, h3, by rw [h4, nEs_eq (P := X.prog)], fun x hx => ?_, by rw [nXs_fst hl]; exact nd⟩
  obtain ⟨e', he, q1, q2⟩ := nXs_mem hx
  obtain ⟨k1, k2⟩ := hk e' he
  rw [q1, q2]
  exact ⟨nest_of I e'.1 _ _ k1 rfl, k2⟩
theorem nd_new {P : Program} {H' : Hp} {h' : Heap} {es : NEnt} {us : List Value} {w : World} (hz : es.length ≤ sizeLine) (hs : (a == sysModules) = false) (rv : Vals (es.map (·.2.2)) us) (dd : h'.DictOfH (nestedKind P w) a (nXs es us)) : ObjOk P w H' h' a (NDx w a es) := by
  obtain ⟨o, des, ep, h1, h2, h3, h4, _, _⟩ := dd
  have p : (fun h : Heap => es.length ≤ sizeLine ∧ (a == sysModules) = false ∧ ∃ (us : List Value) (o : Obj) (des : Array DictEntry) (ep : Nat), Vals (es.map (·.2.2)) us ∧ h.get? a = some o ∧ o.ExactDict ∧ o.data = .dict des ep ∧ des.toList = nEs w es us) h' :=
    ⟨hz, hs, us, o, des, ep, rv, h1, h2, h3, by rw [h4, ← nEs_eq]⟩
  refine ⟨p, ⟨o, h1⟩, fun x y q kk => ?_⟩
  obtain ⟨z1, z2, us', o', des', ep', y1, y2, y3⟩ := q
  exact ⟨z1, z2, us', o', des', ep', y1, kk _ y2, y3⟩
theorem nd_empty {P : Program} {w : World} (h : Heap) (hb : sysModules < h.objs.size) : ObjOk P w H (h.push { cls := .type "dict", data := .dict #[] }) h.objs.size (NDx w h.objs.size []) :=
  nd_new (us := []) (Nat.zero_le _) (beq_eq_false_iff_ne.mpr (Ne.symm (Nat.ne_of_lt hb))) .nil ⟨_, #[], 0, Heap.get?_push_size _ rfl, ⟨rfl, rfl, rfl⟩, rfl, rfl, fun x hx => by simp [nXs] at hx, List.nodup_nil⟩
end
def tDNewN (w : World) : TE := fun _ H Q => ∀ p, H p = none → Q (.ref p) (upd H p (NDx w p []))
section
variable {X : Cx} {W : WX} {o e f : Expr} {td ty tx : TE} {apos cpos pos : Pos} {mo mk md : EM}
theorem pe_dnewN : PE X (.Dict [] [] pos) (tDNewN X.w) := ⟨fun pins s σ H Q I h =>
  wpAny_Dict_empty ⟨.ref s.heap.objs.size, _, I.laid (a := s.heap.objs.size) (o := NDx X.w s.heap.objs.size []) (t' := s.toks) (fun _ _ q => Heap.get?_push_of_some _ q) (Nat.le_refl _) (nd_empty s.heap I.big), rfl, h _ (I.hok.fresh (Nat.le_refl _))⟩⟩
end
def eNwN : EM := fun _ S => .ok (.obj S.length) (S ++ [.dN []])
def isDN (S : Sto) : D → Bool
  | .obj n => match S[n]? with
    | some (.dN _) => true
    | _ => false
  | _ => false
def eSetN (mo mk md : EM) : EM := fun L S => (mo L S).bind fun o S1 => if isDN S1 o = true then (mk L S1).bind fun y S2 => (md L S2).bind fun z S3 => match o, kNk y with
    | .obj n, some q => match S3[n]? with
      | some (.dN kvs) => if kvs.length < sizeLine then match nGet kvs q with
        | some d => .ok d S3
        | none => .ok z (S3.set n (.dN (kvs ++ [(q, z)])))
        else .no
      | _ => .no
    | _, _ => .no
  else .no
section
variable {k : Kx} {H : Hp} {g : G} {S : Sto}
theorem nget_of {q : NestedKey} : ∀ {kvs : DctN} {es : NEnt}, es.map (·.1) = kvs.map (·.1) → RepL k H g (kvs.map (·.2)) (es.map (·.2.2)) → (∀ d, nGet kvs q = some d → ∃ v, nVal es q = some v ∧ Rep k H g d v) ∧ (nGet kvs q = none → nVal es q = none)
  | [], [], _, _ => ⟨fun d h => (by cases h), fun _ => rfl⟩
  | [], _ :: _, h, _ => by cases h
  | _ :: _, [], h, _ => by cases h
  | p :: kvs, e :: es, h, ⟨v, t, e1, r1, r2⟩ => by
    rw [List.map_cons, List.map_cons] at h
    obtain ⟨h1, h2⟩ := List.cons.inj h
    rw [List.map_cons] at e1
    obtain ⟨rfl, rfl⟩ := List.cons.inj e1
    obtain ⟨i1, i2⟩ := nget_of (q := q) h2 r2
    unfold nGet nVal
    rw [List.find?_cons, List.find?_cons, h1]
    by_cases z : p.1 = q
    · rw [decide_eq_true z]
      exact ⟨fun d hd => by cases hd; exact ⟨_, rfl, r1⟩, fun hd => by cases hd⟩
    · rw [decide_eq_false z]
      exact ⟨i1, i2⟩
theorem kNk_ok {y : D} {w : V} {q : NestedKey} (h : kNk y = some q) (r : Rep k H g y w) : ∃ b, w = .ref b ∧ KIs k.K H q (.ref b) ∧ q.depth ≤ 8 := by
  cases y with
  | tup ds =>
    simp only [kNk, Option.bind_eq_some_iff] at h
    obtain ⟨q', h1, h2⟩ := h
    split at h2
    · rename_i hd
      cases h2
      have kk := kN_ok _ _ _ h1 r
      obtain ⟨a, vs, rfl, _⟩ := id r
      exact ⟨a, rfl, kk, hd⟩
    · cases h2
  | _ => cases h
end
section
variable {X : Cx} {W : WX} {o e f : Expr} {apos cpos pos : Pos} {mo mk md : EM}
theorem se_nwN : SE X W (.Dict [] [] pos) eNwN :=
  PE.imp pe_dnewN fun σ H Q ⟨L, S, g, l, w, p⟩ => fun q hq => by
    have w2 : WF (kx X) (upd H q (NDx X.w q [])) (g.push q) (S ++ [.dN []]) := w.newPush hq ⟨[], upd_same, rfl, List.nodup_nil, (fun e he => by cases he), rfl⟩
    refine p (.ref q) _ (g.push q) (Ext.newPush hq) w2 ⟨by rw [w.len]; exact Nat.lt_succ_self _, ?_⟩
    rw [w.len]
    show _ = V.ref (if g.n = g.n then q else g.ρ g.n)
    rw [if_pos rfl]
end
end Rf
set_option Elab.async false
set_option linter.all false
set_option maxRecDepth 100000
set_option maxHeartbeats 1000000
namespace Rf
open PySem L2 TL
structure PSa (X : Cx) (c : Code) (st : List Stmt) (t : TS) : Prop where
  run : ∀ (pins : List (Addr × Obj)) (s : Shared) (σ : L2.St) (H : Hp) (D : Ends), Inv X pins σ H s → t D σ H → PySem.wpAt (model X.prog X.w) X.A c (execs st X.env) (L2.SP X pins D) X.xe s
theorem PSa.imp {X : Cx} {c : Code} {st : List Stmt} {t t' : TS} (h : PSa X c st t) (i : ∀ D σ H, t' D σ H → t D σ H) : PSa X c st t' := ⟨fun pins s σ H D I q => h.run pins s σ H D I (i D σ H q)⟩
def eSup (cs : List Str) (F : Fn) (ma : Ls → Sto → R (List D)) : EM := fun L S => match L[(0 : Nat)]? with
  | some (.v d) => match insOf S d with
    | some (c, _, _) => if c ∈ cs then (ma L S).bind fun as S1 => F (d :: as) S1 else .no
    | none => .no
  | _ => .no
end Rf
set_option Elab.async false
set_option linter.all false
set_option maxRecDepth 100000
set_option maxHeartbeats 1000000
namespace Rf
open PySem L2 TL
variable {xp : ExP}
section
variable {P : D → Sto → Prop} {PL : List D → Sto → Prop} {PS : Fl → Ls → Sto → Prop} {L : Ls} {S : Sto} {i n nn : Nat} {a b c m : EM} {ma mk : Ls → Sto → R (List D)} {cs : List Str} {f x : Str} {ms fs : List (Str × Fn)} {F : Fn} {dds : List D} {oo : D → D → Option D} {ng : Bool}
theorem r_fl (h : wp (a L S) fun d S1 => ∃ c ns ds, insOf S1 d = some (c, ns, ds) ∧ c ∈ cs ∧ ∃ z, fGet f ns ds = some z ∧ P z S1) : wp (eFl cs f a L S) P := by
  unfold eFl
  rw [wp_bind]
  refine h.mono fun d S1 ⟨c, ns, ds, e, hc, z, e2, h⟩ => ?_
  rw [e]
  dsimp only
  rw [if_pos hc]
  exact r_lift ⟨z, e2, h⟩
theorem q_fl (h : wp (b L S) fun d S1 => wp (a L S1) fun o S2 => ∃ n c ns ds, o = .obj n ∧ S2[n]? = some (.ins c ns ds) ∧ c ∈ cs ∧ ns.length < 900 ∧ PS .nx L (S2.set n (.ins c (fPut f d ns ds).1 (fPut f d ns ds).2))) : wps (sFl cs f a b L S) PS := by
  unfold sFl
  rw [wps_st]
  refine h.mono fun d S1 h => ?_
  rw [wps_st]
  refine h.mono fun o S2 ⟨n, c, ns, ds, e, e1, hc, hl, h⟩ => ?_
  subst e
  simp only [e1]
  rw [if_pos ⟨hc, hl⟩]
  exact ⟨h⟩
theorem q_flA (h : wp (a L S) fun o S1 => ∃ n c ns ds x, o = .obj n ∧ S1[n]? = some (.ins c ns ds) ∧ c ∈ cs ∧ fGet f ns ds = some x ∧ wp (b L S1) fun y S2 => ∃ z, oo (deref S2 x) (deref S2 y) = some z ∧
    ∃ ns' ds', S2[n]? = some (.ins c ns' ds') ∧ ns'.length < 900 ∧ PS .nx L (S2.set n (.ins c (fPut f z ns' ds').1 (fPut f z ns' ds').2))) : wps (sFlA cs f oo a b L S) PS := by
  unfold sFlA
  rw [wps_st]
  refine h.mono fun o S1 ⟨n, c, ns, ds, x, e, e1, hc, e2, h⟩ => ?_
  subst e
  simp only [e1]
  rw [if_pos hc, e2]
  dsimp only
  rw [wps_st]
  refine h.mono fun y S2 ⟨z, e3, ns', ds', e4, hl, h⟩ => ?_
  rw [e3]
  simp only [e4]
  rw [if_pos ⟨trivial, hl⟩]
  exact ⟨h⟩
theorem r_mt (h : wp (a L S) fun d S1 => ∃ c ns ds, insOf S1 d = some (c, ns, ds) ∧ ∃ F, ms.lookup c = some F ∧ fGet x ns ds = none ∧ wp (ma L S1) fun as S2 => wp (F (d :: as) S2) P) : wp (eMt x ms a ma L S) P := by
  unfold eMt
  rw [wp_bind]
  refine h.mono fun d S1 ⟨c, ns, ds, e, F, e1, e2, h⟩ => ?_
  rw [e]
  simp only [e1, e2]
  rw [wp_bind]
  exact h
theorem r_mk (h : wp (ma L S) fun ds S1 => @wp noXP _ (F (.obj S1.length :: ds) (S1 ++ [.ins x [] []])) fun d S2 => d = .non ∧ P (.obj S1.length) S2) : wp (eMk x F ma L S) P := by
  unfold eMk
  rw [wp_bind]
  refine h.mono fun ds S1 h => ?_
  obtain ⟨d, S2, e, rfl, h⟩ := h.ex
  rw [e]
  exact ⟨h⟩
theorem r_fnD (h : wp (ma L S) fun ds S1 => wp (F (ds ++ dds) S1) P) : wp (eFnD F dds ma L S) P := by
  unfold eFnD
  rw [wp_bind]
  exact h
theorem r_fnK (h : wp (ma L S) fun ds S1 => wp (mk L S1) fun zs S2 => ds.length = n ∧ zs.length = nn ∧ @wp noXP _ (F (ds ++ zs) S2) P) : wp (eFnK F n nn ma mk L S) P := by
  unfold eFnK
  rw [wp_bind]
  refine h.mono fun ds S1 h => ?_
  rw [wp_bind]
  refine h.mono fun zs S2 ⟨h1, h2, h⟩ => ?_
  rw [if_pos ⟨h1, h2⟩]
  obtain ⟨d, S3, e, h⟩ := h.ex
  rw [e]
  exact ⟨h⟩
theorem r_caL (h : ∃ x, L[i]? = some (.v (.gl x)) ∧ ∃ F, fs.lookup x = some F ∧ wp (ma L S) fun ds S1 => wp (F ds S1) P) : wp (eCaL i fs ma L S) P := by
  obtain ⟨x, e, F, e1, h⟩ := h
  unfold eCaL
  rw [e]
  simp only [e1]
  rw [wp_bind]
  exact h
theorem r_nwK (h : P (.obj S.length) (S ++ [.dK []])) : wp (eNwK L S) P := ⟨h⟩
theorem r_nwN (h : P (.obj S.length) (S ++ [.dN []])) : wp (eNwN L S) P := ⟨h⟩
theorem r_getO (h : wp (a L S) fun o S1 => wp (b L S1) fun y S2 => ∃ d, dLook S2 o y = some (some d) ∧ P d S2) : wp (eGetO a b L S) P := by
  unfold eGetO
  rw [wp_bind]
  refine h.mono fun o S1 h => ?_
  rw [wp_bind]
  refine h.mono fun y S2 ⟨d, e, h⟩ => ?_
  rw [e]
  exact ⟨h⟩
theorem r_inO (h : wp (a L S) fun y S1 => wp (b L S1) fun o S2 => ∃ r, dLook S2 o y = some r ∧ P (.bl (ng != r.isSome)) S2) : wp (eInO ng a b L S) P := by
  unfold eInO
  rw [wp_bind]
  refine h.mono fun o S1 h => ?_
  rw [wp_bind]
  refine h.mono fun y S2 ⟨d, e, h⟩ => ?_
  rw [e]
  exact ⟨h⟩
theorem r_get2 (h : wp (a L S) fun o S1 => (∃ r, dLook S1 o (.int 0) = some r) ∧ wp (b L S1) fun y S2 => wp (c L S2) fun z S3 => ∃ r, dLook S3 o y = some r ∧ P (r.getD z) S3) : wp (eGet2 a b c L S) P := by
  unfold eGet2
  rw [wp_bind]
  refine h.mono fun o S1 ⟨⟨r, e⟩, h⟩ => ?_
  rw [e]
  dsimp only
  rw [wp_bind]
  refine h.mono fun y S2 h => ?_
  rw [wp_bind]
  refine h.mono fun z S3 ⟨r, e, h⟩ => ?_
  rw [e]
  exact ⟨h⟩
theorem q_putD (h : wp (c L S) fun d S1 => wp (a L S1) fun o S2 => wp (b L S2) fun y S3 => ∃ n q kvs, o = .obj n ∧ kKey y = some q ∧ S3[n]? = some (.dK kvs) ∧ kvs.length < sizeLine ∧ PS .nx L (S3.set n (.dK (dPutK kvs q d)))) : wps (sPutD a b c L S) PS := by
  unfold sPutD
  rw [wps_st]
  refine h.mono fun d S1 h => ?_
  rw [wps_st]
  refine h.mono fun o S2 h => ?_
  rw [wps_st]
  refine h.mono fun y S3 ⟨n, q, kvs, e, e1, e2, hl, h9⟩ => ?_
  subst e
  simp only [e1, e2]
  rw [if_pos hl]
  exact ⟨h9⟩
theorem r_setK (h : wp (a L S) fun o S1 => (∃ r, dLook S1 o (.int 0) = some r) ∧ wp (b L S1) fun y S2 => wp (c L S2) fun z S3 => ∃ n q kvs, o = .obj n ∧ kKey y = some q ∧ S3[n]? = some (.dK kvs) ∧ kvs.length < sizeLine ∧
    (∀ d, dGetK kvs q = some d → P d S3) ∧ (dGetK kvs q = none → P z (S3.set n (.dK (dPutK kvs q z))))) : wp (eSetK a b c L S) P := by
  unfold eSetK
  rw [wp_bind]
  refine h.mono fun o S1 ⟨⟨r, e⟩, h⟩ => ?_
  rw [e]
  dsimp only
  rw [wp_bind]
  refine h.mono fun y S2 h => ?_
  rw [wp_bind]
  refine h.mono fun z S3 ⟨n, q, kvs, e0, e1, e2, hl, h1, h2⟩ => ?_
  subst e0
  simp only [e1, e2]
  rw [if_pos hl]
  cases g : dGetK kvs q with
  | none => exact ⟨h2 g⟩
  | some d => exact ⟨h1 d g⟩
theorem r_setN (h : wp (a L S) fun o S1 => isDN S1 o = true ∧ wp (b L S1) fun y S2 => wp (c L S2) fun z S3 => ∃ n q kvs, o = .obj n ∧ kNk y = some q ∧ S3[n]? = some (.dN kvs) ∧ kvs.length < sizeLine ∧
    (∀ d, nGet kvs q = some d → P d S3) ∧ (nGet kvs q = none → P z (S3.set n (.dN (kvs ++ [(q, z)]))))) : wp (eSetN a b c L S) P := by
  unfold eSetN
  rw [wp_bind]
  refine h.mono fun o S1 ⟨e, h⟩ => ?_
  rw [if_pos e]
  rw [wp_bind]
  refine h.mono fun y S2 h => ?_
  rw [wp_bind]
  refine h.mono fun z S3 ⟨n, q, kvs, e0, e1, e2, hl, h1, h2⟩ => ?_
  subst e0
  simp only [e1, e2]
  rw [if_pos hl]
  cases g : nGet kvs q with
  | none => exact ⟨h2 g⟩
  | some d => exact ⟨h1 d g⟩
theorem r_sup (h : ∃ d, L[(0 : Nat)]? = some (.v d) ∧ ∃ c ns ds, insOf S d = some (c, ns, ds) ∧ c ∈ cs ∧ wp (ma L S) fun as S1 => wp (F (d :: as) S1) P) : wp (eSup cs F ma L S) P := by
  obtain ⟨d, e, c, ns, ds, e1, hc, h⟩ := h
  unfold eSup
  rw [e]
  simp only [e1]
  rw [if_pos hc, wp_bind]
  exact h
theorem q_appO (h : wp (a L S) fun o S1 => ∃ n ds0, o = .obj n ∧ S1[n]? = some (.lst ds0) ∧ wp (b L S1) fun d S2 => ∃ ds, S2[n]? = some (.lst ds) ∧ ds.length < sizeLine ∧ PS .nx L (S2.set n (.lst (ds ++ [d])))) : wps (sAppO a b L S) PS := by
  unfold sAppO
  rw [wps_st]
  refine h.mono fun o S1 ⟨n, ds0, e, e1, h⟩ => ?_
  subst e
  simp only [e1]
  rw [wps_st]
  refine h.mono fun d S2 ⟨ds, e2, hl, h⟩ => ?_
  simp only [e2]
  rw [if_pos hl]
  exact ⟨h⟩
instance : Wp (eFl cs f a L S) P (wp (a L S) fun d S1 => ∃ c ns ds, insOf S1 d = some (c, ns, ds) ∧ c ∈ cs ∧ ∃ z, fGet f ns ds = some z ∧ P z S1) := ⟨r_fl⟩
instance : Ws (sFl cs f a b L S) PS (wp (b L S) fun d S1 => wp (a L S1) fun o S2 => ∃ n c ns ds, o = .obj n ∧ S2[n]? = some (.ins c ns ds) ∧ c ∈ cs ∧ ns.length < 900 ∧ PS .nx L (S2.set n (.ins c (fPut f d ns ds).1 (fPut f d ns ds).2))) := ⟨q_fl⟩
instance : Ws (sFlA cs f oo a b L S) PS (wp (a L S) fun o S1 => ∃ n c ns ds x, o = .obj n ∧ S1[n]? = some (.ins c ns ds) ∧ c ∈ cs ∧ fGet f ns ds = some x ∧ wp (b L S1) fun y S2 => ∃ z, oo (deref S2 x) (deref S2 y) = some z ∧
    ∃ ns' ds', S2[n]? = some (.ins c ns' ds') ∧ ns'.length < 900 ∧ PS .nx L (S2.set n (.ins c (fPut f z ns' ds').1 (fPut f z ns' ds').2))) := ⟨q_flA⟩
instance : Wp (eMt x ms a ma L S) P (wp (a L S) fun d S1 => ∃ c ns ds, insOf S1 d = some (c, ns, ds) ∧ ∃ F, ms.lookup c = some F ∧ fGet x ns ds = none ∧ wp (ma L S1) fun as S2 => wp (F (d :: as) S2) P) := ⟨r_mt⟩
instance : Wp (eMk x F ma L S) P (wp (ma L S) fun ds S1 => @wp noXP _ (F (.obj S1.length :: ds) (S1 ++ [.ins x [] []])) fun d S2 => d = .non ∧ P (.obj S1.length) S2) := ⟨r_mk⟩
instance : Wp (eFnD F dds ma L S) P (wp (ma L S) fun ds S1 => wp (F (ds ++ dds) S1) P) := ⟨r_fnD⟩
instance : Wp (eFnK F n nn ma mk L S) P (wp (ma L S) fun ds S1 => wp (mk L S1) fun zs S2 => ds.length = n ∧ zs.length = nn ∧ @wp noXP _ (F (ds ++ zs) S2) P) := ⟨r_fnK⟩
instance : Wp (eCaL i fs ma L S) P (∃ x, L[i]? = some (.v (.gl x)) ∧ ∃ F, fs.lookup x = some F ∧ wp (ma L S) fun ds S1 => wp (F ds S1) P) := ⟨r_caL⟩
instance : Wp (eNwK L S) P (P (.obj S.length) (S ++ [.dK []])) := ⟨r_nwK⟩
instance : Wp (eNwN L S) P (P (.obj S.length) (S ++ [.dN []])) := ⟨r_nwN⟩
instance : Wp (eGetO a b L S) P (wp (a L S) fun o S1 => wp (b L S1) fun y S2 => ∃ d, dLook S2 o y = some (some d) ∧ P d S2) := ⟨r_getO⟩
instance : Wp (eInO ng a b L S) P (wp (a L S) fun y S1 => wp (b L S1) fun o S2 => ∃ r, dLook S2 o y = some r ∧ P (.bl (ng != r.isSome)) S2) := ⟨r_inO⟩
instance : Wp (eGet2 a b c L S) P (wp (a L S) fun o S1 => (∃ r, dLook S1 o (.int 0) = some r) ∧ wp (b L S1) fun y S2 => wp (c L S2) fun z S3 => ∃ r, dLook S3 o y = some r ∧ P (r.getD z) S3) := ⟨r_get2⟩
instance : Ws (sPutD a b c L S) PS (wp (c L S) fun d S1 => wp (a L S1) fun o S2 => wp (b L S2) fun y S3 => ∃ n q kvs, o = .obj n ∧ kKey y = some q ∧ S3[n]? = some (.dK kvs) ∧ kvs.length < sizeLine ∧ PS .nx L (S3.set n (.dK (dPutK kvs q d)))) := ⟨q_putD⟩
instance : Wp (eSetK a b c L S) P (wp (a L S) fun o S1 => (∃ r, dLook S1 o (.int 0) = some r) ∧ wp (b L S1) fun y S2 => wp (c L S2) fun z S3 => ∃ n q kvs, o = .obj n ∧ kKey y = some q ∧ S3[n]? = some (.dK kvs) ∧ kvs.length < sizeLine ∧
    (∀ d, dGetK kvs q = some d → P d S3) ∧ (dGetK kvs q = none → P z (S3.set n (.dK (dPutK kvs q z))))) := ⟨r_setK⟩
instance : Wp (eSetN a b c L S) P (wp (a L S) fun o S1 => isDN S1 o = true ∧ wp (b L S1) fun y S2 => wp (c L S2) fun z S3 => ∃ n q kvs, o = .obj n ∧ kNk y = some q ∧ S3[n]? = some (.dN kvs) ∧ kvs.length < sizeLine ∧
    (∀ d, nGet kvs q = some d → P d S3) ∧ (nGet kvs q = none → P z (S3.set n (.dN (kvs ++ [(q, z)]))))) := ⟨r_setN⟩
instance : Wp (eSup cs F ma L S) P (∃ d, L[(0 : Nat)]? = some (.v d) ∧ ∃ c ns ds, insOf S d = some (c, ns, ds) ∧ c ∈ cs ∧ wp (ma L S) fun as S1 => wp (F (d :: as) S1) P) := ⟨r_sup⟩
end
end Rf
set_option Elab.async false
set_option linter.all false
set_option maxRecDepth 100000
set_option maxHeartbeats 1000000
namespace Rf
open PySem L2 TL
structure MthIn (P : Program) (w : World) (K : PySem.W.Frag) (mg : Str → Option Value) (base : Heap) (D m : Str) (j : Nat) (c : Fn) : Prop where
  ex : ∃ (fd : FuncData) (ps : List Str), FnOkG P w K mg base (L2.CX P w) j (He.ma K (He.ga K D) m) fd ps (spC (k0 K mg w) c) ∧ Binds K fd ps []
/-- the class c has the method m of the class D -/
def MthF (K : PySem.W.Frag) (mg : Str → Option Value) (c D m : Str) : Prop := ∃ C, mg c = some (.ref C) ∧ Cls K C ∧ Meth K C m (He.ma K (He.ga K D) m)
theorem MthIn.at {P : Program} {w : World} {K : PySem.W.Frag} {mg : Str → Option Value} {base : Heap} {D m c : Str} {i j : Nat} {F : Fn} {X : Cx} (h : MthIn P w K mg base D m j F) (f : MthF K mg c D m) (hr : RoomG i X.A) (hl : j ≤ i)
    (h1 : X.prog = P) (h2 : X.w = w) (h3 : X.K = K) (h4 : X.mg = mg) (h5 : X.base = base) : MthC X m c F := by
  subst h1 h2 h3 h4 h5
  obtain ⟨fd, ps, F, hb⟩ := h.ex
  obtain ⟨C, hC, cl, mt⟩ := f
  exact ⟨C, _, fd, ps, j, hC, cl, mt, F, hr.mono hl, hb⟩
/-- the class c is made by the maker of the class D -/
def MkF (K : PySem.W.Frag) (mg : Str → Option Value) (c D : Str) : Prop := ∃ C, mg c = some (.ref C) ∧ Mk K C (He.ma K (He.ga K D) "__init__")
/-- where a method stands -/
def MDef (K : PySem.W.Frag) (D m qual : Str) (st : Stmt) : Prop := ∃ fd : FuncData, FunD K m qual (defArgs st) (defBody st) (defScope st) [] [] (He.ma K (He.ga K D) m) fd
/-- the i-th statement of a class's body -/
def mthOf (i : Nat) : Stmt → Stmt
  | .ClassDef _ _ _ body _ _ _ _ _ _ _ => body.getD i (.Pass ⟨0, 0, 0, 0⟩)
  | s => s
theorem fldK_nil {K : PySem.W.Frag} {mg : Str → Option Value} {f : Str} : FldK K mg [] f := fun c h => by cases h
theorem fldK_cons {K : PySem.W.Frag} {mg : Str → Option Value} {f c : Str} {cs : List Str} (h : ∃ C, mg c = some (.ref C) ∧ Cls K C ∧ NoAttr K C f) (t : FldK K mg cs f) : FldK K mg (c :: cs) f := fun c' h' => by
  rcases List.mem_cons.mp h' with rfl | h'
  · exact h
  · exact t c' h'
section
variable {fa : List He.Fa} {fn : List He.DefD} {K : PySem.W.Frag} {h : Heap} {mg : Str → Option Value} {c D m f qual : Str} {st : Stmt}
theorem mdef_at (c : He.SaysD fa fn K) (h1 : (⟨(D, some m), m, qual, defArgs st, defBody st, defScope st, [], []⟩ : He.DefD) ∈ fn) : MDef K D m qual st := by
  obtain ⟨fd, F⟩ := c.defs h1
  exact ⟨fd, F⟩
theorem fld_at (X : K.In h) (G : h.Ns mainGlobals mg) (q : He.SaysD fa fn K) (h1 : He.Fa.glo c ∈ fa) (h2 : He.Fa.cls c ∈ fa) (h3 : He.Fa.noat c f ∈ fa) : ∃ C, mg c = some (.ref C) ∧ Cls K C ∧ NoAttr K C f :=
  ⟨_, He.glo_ok X G (q.facts h1), He.cls_ok (q.facts h2), He.noat_ok (q.facts h3)⟩
theorem mthF_at (X : K.In h) (G : h.Ns mainGlobals mg) (q : He.SaysD fa fn K) (h1 : He.Fa.glo c ∈ fa) (h2 : He.Fa.cls c ∈ fa) (h3 : He.Fa.meth c m ∈ fa) (e : decide (He.ma K (He.ga K c) m = He.ma K (He.ga K D) m) = true) : MthF K mg c D m :=
  ⟨_, He.glo_ok X G (q.facts h1), He.cls_ok (q.facts h2), by rw [← of_decide_eq_true e]; exact He.meth_ok (q.facts h3)⟩
theorem mkF_at (X : K.In h) (G : h.Ns mainGlobals mg) (q : He.SaysD fa fn K) (h1 : He.Fa.glo c ∈ fa) (h3 : He.Fa.mkr c ∈ fa) (e : decide (He.ma K (He.ga K c) "__init__" = He.ma K (He.ga K D) "__init__") = true) : MkF K mg c D :=
  ⟨_, He.glo_ok X G (q.facts h1), by rw [← of_decide_eq_true e]; exact He.mkr_ok (q.facts h3)⟩
end
abbrev FnS : Type := Option (Str × Str × Arguments × FuncBody × Scope × Addr × List Str × Addr)
def fnS (K : PySem.W.Frag) (p : Str × Option Str) : FnS := match K.lookup (He.fAd K p) with
  | some ⟨_, _, .func fd, _⟩ => some (fd.name, fd.qualname, fd.params, fd.body, fd.scope, fd.globals, fd.closure.map (·.1), fd.builtins)
  | _ => none
def valS (d : He.DefD) : FnS := some (d.name, d.qual, d.params, .stmts d.body, d.scope, mainGlobals, ["__class__"], builtinsNs)
def etB (K : PySem.W.Frag) (a : Addr) : Bool := match K.lookup a with
  | some ⟨.type c, _, .seq its _, _⟩ => decide (c = "tuple") && its.toList.isEmpty
  | _ => false
theorem etB_ok {k : Kx} {a : Addr} (h : etB k.K a = true) (H : Hp) (g : G) : Rep k H g (.tup []) (.ref a) := by
  unfold etB at h
  split at h
  · rename_i c od its n sl q
    rw [Bool.and_eq_true, decide_eq_true_eq] at h
    obtain ⟨rfl, hi⟩ := h
    have hi' : its.toList = [] := by simpa using hi
    refine ⟨a, [], rfl, .inr ⟨⟨_, its, n, q, rfl, rfl, ?_, by rw [hi']; exact .nil⟩, .inr rfl⟩, rfl⟩
    have : its.size = 0 := by rw [← Array.length_toList, hi']; rfl
    rw [this]
    exact Nat.zero_le _
  · cases h
def frS (n : Nat) (g : Addr → Option Obj) : PySem.W.Frag := He.frG g (He.asD g n ++ [PySem.cStatics])
end Rf
set_option Elab.async false
set_option linter.all false
set_option maxRecDepth 100000
set_option maxHeartbeats 1000000
namespace Rf
open PySem L2 TL
theorem un9 {u c : Nat} (h : u + 64 < c) : u + 9 < c := by omega
theorem un64 {u c : Nat} (h : u + 64 < c) : u + 60 < c := by omega
mutual
def dD : D → Option PyData
  | .non => some .none
  | .bl b => some (.bool b)
  | .int i => some (.int i)
  | .str x => some (.str ⟨x.toArray⟩)
  | .tup ds => (dDs ds).map .tuple
  | .lst ds => (dDs ds).map .list
  | _ => none
def dDs : List D → Option (List PyData)
  | [] => some []
  | d :: ds => match dD d, dDs ds with
    | some k, some ks => some (k :: ks)
    | _, _ => none
end
def reprD (p : PyData) : Option (List Nat) := if p.showable = true ∧ p.shown.length ≤ sizeLine ∧ p.depth ≤ 50 then some p.shown.cps.toList else none
def bRepr : List D → Option D
  | [.tup ds] => (dD (.tup ds)).bind fun p => (reprD p).map .str
  | [.lst ds] => (dD (.lst ds)).bind fun p => (reprD p).map .str
  | _ => none
mutual
theorem noDict : ∀ (d : D) (p : PyData), dD d = some p → p.hasDict = false
  | .non, _, h => by simp only [dD] at h; cases h; rfl
  | .bl _, _, h => by simp only [dD] at h; cases h; rfl
  | .int _, _, h => by simp only [dD] at h; cases h; rfl
  | .str _, _, h => by simp only [dD] at h; cases h; rfl
  | .tup ds, _, h => by
    simp only [dD, Option.map_eq_some_iff] at h
    obtain ⟨ps, h, rfl⟩ := h
    simp only [PyData.hasDict]
    exact noDicts ds ps h
  | .lst ds, _, h => by
    simp only [dD, Option.map_eq_some_iff] at h
    obtain ⟨ps, h, rfl⟩ := h
    simp only [PyData.hasDict]
    exact noDicts ds ps h
  | .obj _, _, h => by simp only [dD] at h; cases h
  | .gl _, _, h => by simp only [dD] at h; cases h
  | .ty _, _, h => by simp only [dD] at h; cases h
  | .scr _, _, h => by simp only [dD] at h; cases h
  | .edc, _, h => by simp only [dD] at h; cases h
  | .ins _ _ _, _, h => by simp only [dD] at h; cases h
theorem noDicts : ∀ (ds : List D) (ps : List PyData), dDs ds = some ps → PyData.hasDictAll ps = false
  | [], _, h => by simp only [dDs] at h; cases h; rfl
  | d :: ds, ps, h => by
    simp only [dDs] at h
    split at h
    · rename_i q qs h1 h2
      cases h
      simp only [PyData.hasDictAll, noDict d q h1, noDicts ds qs h2, Bool.or_self]
    · cases h
end
section
variable {X : Cx} {pins : List (Addr × Obj)} {σ : L2.St} {H : Hp} {s : Shared} {g : G}
theorem tup_heap (I : Inv X pins σ H s) {b : Addr} {vs : List V} (t : TupAt X.K H b vs) : ∃ (o : Obj) (its : List Value) (n : Nat), Vals vs its ∧ s.heap.get? b = some o ∧ o.cls = .type "tuple" ∧ o.data = .seq its.toArray n := by
  obtain ⟨its, rv, hl, hz⟩ := I.tuple t.sq
  obtain ⟨o, h1, h2, n, h3⟩ := hl
  exact ⟨o, its, n, rv, h1, h2, h3⟩
theorem lst_heap (I : Inv X pins σ H s) {b : Addr} {vs : List V} (t : H b = some (.lst vs)) : ∃ (o : Obj) (its : List Value) (n : Nat), Vals vs its ∧ s.heap.get? b = some o ∧ o.cls = .type "list" ∧ o.data = .seq its.toArray n := by
  obtain ⟨hz, its, n, rv, h1⟩ := (show ObjOk X.prog X.w H s.heap b (.lst vs) from I.hok b _ t)
  exact ⟨_, its, n, rv, h1, rfl, rfl⟩
mutual
theorem reads_of (I : Inv X pins σ H s) : ∀ (d : D) (p : PyData) (v : V) (u : Value), dD d = some p → Rep (kx X) H g d v → RelV v u → ∃ as, Reads s.heap u p as
  | .non, _, _, _, h, r, rv => by simp only [dD] at h; cases h; cases r; cases (show _ = Value.none from rv); exact ⟨_, .none⟩
  | .bl b, _, _, _, h, r, rv => by simp only [dD] at h; cases h; cases r; cases (show _ = Value.bool b from rv); exact ⟨_, .bool b⟩
  | .int i, _, _, _, h, r, rv => by simp only [dD] at h; cases h; cases r; obtain ⟨t, rfl⟩ := (show ∃ t, _ = Value.int i t from rv); exact ⟨_, .int i t⟩
  | .str x, _, _, _, h, r, rv => by simp only [dD] at h; cases h; cases r; obtain ⟨t, rfl⟩ := (show ∃ t, _ = Value.str _ t from rv); exact ⟨_, .str _ t⟩
  | .tup ds, _, _, _, h, ⟨a, vs, e, t, rl⟩, rv => by
    simp only [dD, Option.map_eq_some_iff] at h
    obtain ⟨ps, h, rfl⟩ := h
    subst e
    cases (show _ = Value.ref a from rv)
    obtain ⟨o, its, n, rits, h1, h2, h3⟩ := tup_heap I t
    obtain ⟨as, ha⟩ := readss_of I ds ps vs its h rl rits
    exact ⟨_, .tuple h1 h2 h3 (by simpa using ha)⟩
  | .lst ds, _, _, _, h, ⟨a, vs, e, _, t, rl⟩, rv => by
    simp only [dD, Option.map_eq_some_iff] at h
    obtain ⟨ps, h, rfl⟩ := h
    subst e
    cases (show _ = Value.ref a from rv)
    obtain ⟨o, its, n, rits, h1, h2, h3⟩ := lst_heap I t
    obtain ⟨as, ha⟩ := readss_of I ds ps vs its h rl rits
    exact ⟨_, .list h1 h2 h3 (by simpa using ha)⟩
  | .obj _, _, _, _, h, _, _ => by simp only [dD] at h; cases h
  | .gl _, _, _, _, h, _, _ => by simp only [dD] at h; cases h
  | .ty _, _, _, _, h, _, _ => by simp only [dD] at h; cases h
  | .scr _, _, _, _, h, _, _ => by simp only [dD] at h; cases h
  | .edc, _, _, _, h, _, _ => by simp only [dD] at h; cases h
  | .ins _ _ _, _, _, _, h, _, _ => by simp only [dD] at h; cases h
theorem readss_of (I : Inv X pins σ H s) : ∀ (ds : List D) (ps : List PyData) (vs : List V) (us : List Value), dDs ds = some ps → RepL (kx X) H g ds vs → Vals vs us → ∃ as, ReadsAll s.heap us ps as
  | [], _, _, _, h, r, rv => by simp only [dDs] at h; cases h; cases (show _ = [] from r); cases rv; exact ⟨_, .nil⟩
  | d :: ds, _, _, _, h, ⟨v, t, e, r1, r2⟩, rv => by
    simp only [dDs] at h
    subst e
    cases rv with
    | cons q1 q2 =>
      split at h
      · rename_i q qs h1 h2
        cases h
        obtain ⟨as, a1⟩ := reads_of I d q v _ h1 r1 q1
        obtain ⟨bs, a2⟩ := readss_of I ds qs t _ h2 r2 q2
        exact ⟨_, .cons a1 a2⟩
      · cases h
end
theorem bRepr_ok (hu : X.A.units + 60 < cLine) (hg : X.A.guards = some []) : CallC X (.builtin "repr") bRepr := by
  have key : ∀ (p : PyData) (a : Addr) (as : List Addr) (S : Sto) (g : G) (x : List Nat) (pins : List (Addr × Obj)) (s : Shared) (σ : L2.St) (H : Hp) (Q : VK), Inv X pins σ H s → Reads s.heap (.ref a) p as → p.hasDict = false → reprD p = some x → WF (kx X) H g S →
      (∀ v H' g', Ext H g H' g' → WF (kx X) H' g' S → Rep (kx X) H' g' (.str x) v → Q v H') → wpAny (model X.prog X.w) X.A (call (.builtin "repr") [.ref a]) (EP X pins σ Q) X.xe s := by
    intro p a as S g x pins s σ H Q I rd nd hp w q
    unfold reprD at hp
    split at hp
    · rename_i hc
      cases hp
      obtain ⟨h1, h2, h3⟩ := hc
      refine repr_of_reads' rd h1 (fun z => by rw [nd] at z; cases z) hg (by omega) (fun _ _ z => z) (fun h' u tk hk => ?_) h2
      refine ⟨.str p.shown, H, I.kept (t' := tk) hk, ⟨u, rfl⟩, q _ H g (Ext.refl H g) w ?_⟩
      show V.str p.shown = V.str ⟨p.shown.cps.toList.toArray⟩
      rfl
    · cases hp
  intro ds res h pins s σ H xs us Q I r ⟨g, S, w, c, q⟩
  unfold bRepr at h
  split at h
  · rename_i ts
    obtain ⟨p, hp, h⟩ := Option.bind_eq_some_iff.mp h
    obtain ⟨x, hx, rfl⟩ := Option.map_eq_some_iff.mp h
    obtain ⟨v, t, rfl, c1, ht⟩ := c
    cases (show t = [] from ht)
    cases r with
    | cons r1 r2 =>
      cases r2
      obtain ⟨a, vs, rfl, ta, rl⟩ := c1
      obtain ⟨as, rd⟩ := reads_of I (.tup ts) p (.ref a) _ hp (g := g) ⟨a, vs, rfl, ta, rl⟩ r1
      cases (show _ = Value.ref a from r1)
      exact key p a as S g x pins s σ H Q I rd (noDict _ _ hp) hx w q
  · rename_i ts
    obtain ⟨p, hp, h⟩ := Option.bind_eq_some_iff.mp h
    obtain ⟨x, hx, rfl⟩ := Option.map_eq_some_iff.mp h
    obtain ⟨v, t, rfl, c1, ht⟩ := c
    cases (show t = [] from ht)
    cases r with
    | cons r1 r2 =>
      cases r2
      obtain ⟨a, vs, rfl, ta, rl⟩ := c1
      have nd := noDict _ _ hp
      simp only [dD, Option.map_eq_some_iff] at hp
      obtain ⟨ps, hp, rfl⟩ := hp
      cases (show _ = Value.ref a from r1)
      obtain ⟨o, its, n, rits, h1, h2, h3⟩ := lst_heap I ta
      obtain ⟨as, ha⟩ := readss_of I ts ps vs its hp rl rits
      exact key _ a _ S g x pins s σ H Q I (.list h1 h2 h3 (by simpa using ha)) nd hx w q
  · cases h
end
end Rf
set_option Elab.async false
set_option linter.all false
set_option maxRecDepth 100000
set_option maxHeartbeats 0
namespace Rf
open PySem L2 TL
section
variable {α : Type} {f g : α → D} {all : List D} {t : Tg} {b : SM} {P : Fl → Ls → Sto → Prop} {PL : List D → Sto → Prop} {tt : Ls → Sto → R Bool} {te : EM} {Lw : Ls} {l : List (Nat × List D)}
theorem wps_forD {xp : ExP} (I : List D → Ls → Sto → Prop) (hI : ∀ ds L S, I ds L S → DepC S l)
    (step : ∀ d ds L S, I (d :: ds) L S → ∃ L1, tgA t d L = some L1 ∧ wps (b L1 S) fun fl L2 S2 => match fl with
      | .nx => I ds L2 S2
      | .ct => I ds L2 S2
      | .bk => P .nx L2 S2
      | fl => P fl L2 S2)
    (done : ∀ L S, I [] L S → P .nx L S) : ∀ (ds : List D) (L : Ls) (S : Sto), I ds L S → wps (forL (some l) all t b ds L S) P
  | [], L, S, h => by
    rw [forL, ckS, if_pos (hI _ _ _ h)]
    exact ⟨done L S h⟩
  | d :: ds, L, S, h => by
    obtain ⟨L1, e, h'⟩ := step d ds L S h
    rw [forL, ckS, if_pos (hI _ _ _ h), e]
    dsimp only
    cases q : b L1 S with
    | no => rw [q] at h'; exact h'.out.elim
    | ex x L2 S2 => rw [q] at h'; exact ⟨h'.out⟩
    | ok fl L2 S2 =>
      rw [q] at h'
      cases fl with
      | nx => exact wps_forD I hI step done ds L2 S2 h'.out
      | ct => exact wps_forD I hI step done ds L2 S2 h'.out
      | bk => exact ⟨h'.out⟩
      | rt d => exact ⟨h'.out⟩
theorem wps_eaD {xp : ExP} (J : List α → Ls → Sto → Prop) (hJ : ∀ as L S, J as L S → DepC S l)
    (step : ∀ a as L S, J (a :: as) L S → ∃ L1, tgA t (f a) L = some L1 ∧ wps (b L1 S) fun fl L2 S2 => match fl with
      | .nx => J as L2 S2
      | .ct => J as L2 S2
      | .bk => P .nx L2 S2
      | fl => P fl L2 S2)
    (done : ∀ L S, J [] L S → P .nx L S) (as : List α) (L : Ls) (S : Sto) (h : J as L S) : wps (forL (some l) all t b (as.map f) L S) P := by
  refine wps_forD (fun ds L S => ∃ as, ds = as.map f ∧ J as L S) (fun ds L S ⟨as, _, h⟩ => hJ as L S h) ?_ ?_ _ L S ⟨as, rfl, h⟩
  · rintro d ds L S ⟨as, e, h⟩
    cases as with
    | nil => cases e
    | cons a as =>
      cases e
      obtain ⟨L1, e1, w⟩ := step a as L S h
      exact ⟨L1, e1, w.mono fun fl L2 S2 q => by
        cases fl with
        | nx => exact ⟨_, rfl, q⟩
        | ct => exact ⟨_, rfl, q⟩
        | bk => exact q
        | rt d => exact q⟩
  · rintro L S ⟨as, e, h⟩
    cases as with
    | nil => exact done L S h
    | cons a as => cases e
theorem wps_eaB {xp : ExP} {dep : Dep} (J : List α → Ls → Sto → Prop) (hJ : ∀ l, dep = some l → ∀ as L S, J as L S → DepC S l)
    (step : ∀ a as L S, J (a :: as) L S → ∃ L1, tgA t (f a) L = some L1 ∧ wps (b L1 S) fun fl L2 S2 => match fl with
      | .nx => J as L2 S2
      | .ct => J as L2 S2
      | .bk => P .nx L2 S2
      | fl => P fl L2 S2)
    (done : ∀ L S, J [] L S → P .nx L S) (as : List α) (L : Ls) (S : Sto) (h : J as L S) : wps (forL dep all t b (as.map f) L S) P := by
  cases dep with
  | none => exact wps_ea J step done as L S h
  | some l => exact wps_eaD J (hJ l rfl) step done as L S h
end
end Rf
set_option Elab.async false
set_option linter.all false
set_option maxRecDepth 100000
set_option maxHeartbeats 1000000
namespace Rf
open PySem L2 TL
def nxE (Q : L2.St → Hp → Prop) : Ends := { nx := Q, bk := fun _ _ => False, ct := fun _ _ => False, rt := fun _ _ => False }
/-- a target: what is done with a value -/
abbrev TM := D → SM
def tmS : List TM → List D → SM
  | [], [] => fun L S => .ok .nx L S
  | t :: ts, d :: ds => fun L S => (t d L S).seq fun L S => tmS ts ds L S
  | _, _ => fun _ _ => .no
def tmNm (i : Nat) : TM := fun d L S => .ok .nx (L.set i (.v d)) S
/-- a place of a list of the store, a key of a dict of the store -/
def tmSub (mo mk : EM) : TM := fun d L S => (mo L S).st L fun o S2 => (mk L S2).st L fun y S3 => match o with
  | .obj n => match S3[n]?, y with
    | some (.lst ds), .int k => match ixN ds.length k with
      | some j => .ok .nx L (S3.set n (.lst (ds.set j d)))
      | none => .no
    | some (.dK kvs), y => match kKey y with
      | some q => if kvs.length < sizeLine then .ok .nx L (S3.set n (.dK (dPutK kvs q d))) else .no
      | none => .no
    | _, _ => .no
  | _ => .no
theorem PSet.or {X : Cx} {t t' : TSet} (h : PSet X t) (h' : PSet X t') : PSet X (fun o i v H Q => t o i v H Q ∨ t' o i v H Q) := fun pins s σ H o i v ov iv u Q I r1 r2 r3 q => q.elim (h pins s σ H o i v ov iv u Q I r1 r2 r3) (h' pins s σ H o i v ov iv u Q I r1 r2 r3)
section
variable {X : Cx} {W : WX} {pos ps : Pos} {i kk : Nat} {x : Str} {e o ix : Expr} {es : List Expr} {tm : TM} {tms : List TM} {mo mk m : EM}
def RS.nxO (r : RS) : RS := match r with
  | .ok .nx L S => .ok .nx L S
  | .ex x L S => .ex x L S
  | _ => .no
theorem SPost.nxO {k : Kx} {B : Hp} {gB : G} {H : Hp} {g : G} {r : RS} {D : Ends} (p : SPost k B gB W H g r.nxO D) : SPost k B gB W H g r (nxE D.nx) := by
  cases r with
  | ok fl L S =>
    cases fl with
    | nx => exact p
    | _ => exact p.elim
  | ex x L S => exact p
  | no => exact p
/-- a, b = .. : the values of a new tuple go to the targets one by one -/
def sTm (tms : List TM) (m : EM) : SM := fun L S => (m L S).st L fun d S1 => match d with
  | .tup ds => if ds.length = tms.length then (tmS tms ds L S1).nxO else .no
  | _ => .no
end
section
variable {xp : ExP} {PS : Fl → Ls → Sto → Prop} {L : Ls} {S : Sto} {m mo mk : EM} {tms : List TM} {tm : TM} {d : D} {ds : List D} {i : Nat}
theorem nxO_wps {r : RS} (h : wps r fun fl L S => fl = .nx ∧ PS .nx L S) : wps r.nxO PS := by
  cases r with
  | ok fl L S =>
    obtain ⟨e, k⟩ := (show fl = .nx ∧ PS .nx L S from h.out)
    subst e
    exact ⟨k⟩
  | ex x L S => exact ⟨h.out⟩
  | no => exact h.out.elim
theorem q_tm (h : wp (m L S) fun d S1 => ∃ ds, d = .tup ds ∧ ds.length = tms.length ∧ wps (tmS tms ds L S1) fun fl L S => fl = .nx ∧ PS .nx L S) : wps (sTm tms m L S) PS := by
  unfold sTm
  rw [wps_st]
  refine h.mono fun d S1 ⟨ds, e, hl, h⟩ => ?_
  subst e
  dsimp only
  rw [if_pos hl]
  exact nxO_wps h
theorem q_tmNil (h : PS .nx L S) : wps (tmS [] [] L S) PS := ⟨h⟩
theorem q_tmCons (h : wps (tm d L S) fun fl L1 S1 => match fl with
    | .nx => wps (tmS tms ds L1 S1) PS
    | fl => PS fl L1 S1) : wps (tmS (tm :: tms) (d :: ds) L S) PS := by
  unfold tmS
  rw [wps_seq]
  exact h
theorem q_tmNm (h : ∀ L', L.set i (.v d) = L' → PS .nx L' S) : wps (tmNm i d L S) PS := ⟨h _ rfl⟩
theorem q_tmSub (h : wp (mo L S) fun o S2 => wp (mk L S2) fun y S3 => ∃ n, o = .obj n ∧ ((∃ k xs j, y = .int k ∧ S3[n]? = some (.lst xs) ∧ ixN xs.length k = some j ∧ ∀ S', S3.set n (.lst (xs.set j d)) = S' → PS .nx L S') ∨
    (∃ q kvs, kKey y = some q ∧ S3[n]? = some (.dK kvs) ∧ kvs.length < sizeLine ∧ ∀ S', S3.set n (.dK (dPutK kvs q d)) = S' → PS .nx L S'))) : wps (tmSub mo mk d L S) PS := by
  unfold tmSub
  rw [wps_st]
  refine h.mono fun o S2 h2 => ?_
  rw [wps_st]
  refine h2.mono fun y S3 h3 => ?_
  obtain ⟨n, e, k3⟩ := h3
  subst e
  dsimp only
  rcases k3 with ⟨k, xs, j, rfl, e1, e2, k4⟩ | ⟨q, kvs, e1, e2, hl, k4⟩
  · rw [e1]
    dsimp only
    rw [e2]
    exact ⟨k4 _ rfl⟩
  · rw [e2]
    dsimp only
    rw [e1]
    dsimp only
    rw [if_pos hl]
    exact ⟨k4 _ rfl⟩
instance : Ws (sTm tms m L S) PS (wp (m L S) fun d S1 => ∃ ds, d = .tup ds ∧ ds.length = tms.length ∧ wps (tmS tms ds L S1) fun fl L S => fl = .nx ∧ PS .nx L S) := ⟨q_tm⟩
instance : Ws (tmS [] [] L S) PS (PS .nx L S) := ⟨q_tmNil⟩
instance : Ws (tmS (tm :: tms) (d :: ds) L S) PS (wps (tm d L S) fun fl L1 S1 => match fl with
    | .nx => wps (tmS tms ds L1 S1) PS
    | fl => PS fl L1 S1) := ⟨q_tmCons⟩
instance : Ws (tmNm i d L S) PS (∀ L', L.set i (.v d) = L' → PS .nx L' S) := ⟨q_tmNm⟩
instance : Ws (tmSub mo mk d L S) PS (wp (mo L S) fun o S2 => wp (mk L S2) fun y S3 => ∃ n, o = .obj n ∧ ((∃ k xs j, y = .int k ∧ S3[n]? = some (.lst xs) ∧ ixN xs.length k = some j ∧ ∀ S', S3.set n (.lst (xs.set j d)) = S' → PS .nx L S') ∨
    (∃ q kvs, kKey y = some q ∧ S3[n]? = some (.dK kvs) ∧ kvs.length < sizeLine ∧ ∀ S', S3.set n (.dK (dPutK kvs q d)) = S' → PS .nx L S'))) := ⟨q_tmSub⟩
end
end Rf
set_option Elab.async false
set_option linter.all false
set_option maxRecDepth 100000
set_option maxHeartbeats 1000000
namespace Rf
open PySem L2 TL
inductive PV where
  | v (m : EM) | o (m : Ls → Sto → R (List D))
def pvE : PV → Ls → Sto → R LV
  | .v m, L, S => (m L S).bind fun d S1 => .ok (.v d) S1
  | .o m, L, S => (m L S).bind fun ds S1 => .ok (.o (.lst ds)) S1
def PvRep (k : Kx) (H0 H : Hp) (g : G) : LV → V → Prop
  | .v d, v => Rep k H g d v
  | .o (.lst ds), v => FRep k H0 H g ds v
  | _, _ => False
abbrev SV (X : Cx) (W : WX) (e : Expr) (a : PV) : Prop := PE X e (fun σ H Q => ∃ L S g, LocRel (kx X) σ L H g ∧ WF (kx X) H g S ∧ Post (kx X) (PvRep (kx X) H) H g (fun c d => W c d σ) (pvE a L S) Q)
section
variable {X : Cx} {W : WX} {pos : Pos} {e a b c : Expr} {m : EM} {mf : Ls → Sto → R (List D)} {i j l : Nat} {x y z : Str}
theorem sv_v (h : SE X W e m) : SV X W e (.v m) := PE.imp h fun σ H Q ⟨L, S, g, l, w, p⟩ => ⟨L, S, g, l, w, Post.bind p fun d S1 v H1 g1 e1 w1 r1 p1 => Post.ret p1 w1 r1⟩
theorem sv_o (h : SF X W e mf) : SV X W e (.o mf) := PE.imp h fun σ H Q ⟨L, S, g, l, w, p⟩ => ⟨L, S, g, l, w, by
  have p' : Post (kx X) (PvRep (kx X) H) H g (fun c d => W c d σ) ((mf L S).bind fun ds S1 => .ok (.o (.lst ds)) S1) Q := p
  cases q : mf L S with
  | ok ds S1 =>
    rw [q] at p'
    exact fun v H1 g1 e1 w1 r1 => p' v H1 g1 e1 w1 r1
  | ex x S1 => rw [q] at p'; exact p'
  | no => rw [q] at p'; exact p'⟩
theorem PvRep.ext {k : Kx} {H0 H H' : Hp} {g g' : G} {lv : LV} {v : V} (e : Ext H g H' g') (r : PvRep k H0 H g lv v) : PvRep k H0 H' g' lv v := by
  cases lv with
  | v d => exact Rep.mono e.toPExt _ _ r
  | o u =>
    cases u with
    | lst ds =>
      obtain ⟨a, h1, h2, h3⟩ := r
      exact ⟨a, h1, h2, h3.ext e⟩
    | _ => exact r.elim
  | un => exact r.elim
  | exc x => exact r.elim
theorem Fr.pv {k : Kx} {B H H1 : Hp} {gB g g1 : G} {σ : L2.St} {L : Ls} {S S1 : Sto} {lv : LV} {v : V} (f : Fr k B gB σ L H g S) (f1 : Fr k B gB σ L H1 g1 S1) (r : PvRep k H H1 g1 lv v) (i : Nat) : Fr k B gB (σ.set i (some v)) (L.set i lv) H1 g1 S1 := by
  cases lv with
  | v d => exact f1.set r
  | o u =>
    cases u with
    | lst ds => exact Fr.fresh f f1 r
    | _ => exact r.elim
  | un => exact r.elim
  | exc x => exact r.elim
def sPv2 (i j : Nat) (a b : PV) : SM := fun L S => (pvE a L S).st L fun x S1 => (pvE b L S1).st L fun y S2 => .ok .nx ((L.set i x).set j y) S2
def sPv3 (i j l : Nat) (a b c : PV) : SM := fun L S => (pvE a L S).st L fun x S1 => (pvE b L S1).st L fun y S2 => (pvE c L S2).st L fun z S3 => .ok .nx (((L.set i x).set j y).set l z) S3
theorem ss_pv2 {px py pt pt2 : Pos} {kt k2 : Nat} {A B : PV} (hc : X.calm = true) (hN : X.N.Nodup) (hi : X.N[i]? = some x) (hj : X.N[j]? = some y) (hij : i ≠ j)
    (hx : X.env.scope.names.lookup x = some .local) (hy : X.env.scope.names.lookup y = some .local) (ha : SV X W a A) (hb : SV X W b B) (hs : noStar a = true) (hs2 : noStar b = true)
    (hw : swappedStores [.Tuple [.Name x px, .Name y py] kt pt] (.Tuple [a, b] k2 pt2) X.env = pure (some [x, y])) :
    SS X W (.Assign [.Tuple [.Name x px, .Name y py] kt pt] (.Tuple [a, b] k2 pt2) pos) (sPv2 i j A B) :=
  PS.imp (ps_par hc hN hi hj hij hx hy (pa_cons ha (pa_cons hb pa_nil (star_cons hs2)) (star_cons hs)) hw) fun D σ H ⟨L, S, g, B0, gB, f, p⟩ =>
    ⟨L, S, g, f.loc, f.wf, st_e (P := PvRep (kx X) H) f p fun lx S1 v H1 g1 f1 e1 r1 p1 => ⟨L, S1, g1, f1.loc, f1.wf, st_e (P := PvRep (kx X) H1) f1 p1 fun ly S2 w H2 g2 f2 e2 r2 p2 =>
      ⟨v, w, rfl, SPost.nx p2 (Fr.pv (Fr.pv f f1 r1 i) ((Fr.pv f f1 r1 i).ext e2 f2.wf) r2 j)⟩⟩⟩
theorem ss_pv3 {px py pz pt pt2 : Pos} {kt k2 : Nat} {A B C : PV} (hc : X.calm = true) (hN : X.N.Nodup) (hi : X.N[i]? = some x) (hj : X.N[j]? = some y) (hl : X.N[l]? = some z) (hij : i ≠ j) (hil : i ≠ l) (hjl : j ≠ l)
    (hx : X.env.scope.names.lookup x = some .local) (hy : X.env.scope.names.lookup y = some .local) (hz : X.env.scope.names.lookup z = some .local) (ha : SV X W a A) (hb : SV X W b B) (hd : SV X W c C) (hs : noStar a = true) (hs2 : noStar b = true) (hs3 : noStar c = true)
    (hw : swappedStores [.Tuple [.Name x px, .Name y py, .Name z pz] kt pt] (.Tuple [a, b, c] k2 pt2) X.env = pure (some [x, y, z])) :
    SS X W (.Assign [.Tuple [.Name x px, .Name y py, .Name z pz] kt pt] (.Tuple [a, b, c] k2 pt2) pos) (sPv3 i j l A B C) :=
  PS.imp (ps_par3 hc hN hi hj hl hij hil hjl hx hy hz (pa_cons ha (pa_cons hb (pa_cons hd pa_nil (star_cons hs3)) (star_cons hs2)) (star_cons hs)) hw) fun D σ H ⟨L, S, g, B0, gB, f, p⟩ =>
    ⟨L, S, g, f.loc, f.wf, st_e (P := PvRep (kx X) H) f p fun lx S1 v H1 g1 f1 e1 r1 p1 => ⟨L, S1, g1, f1.loc, f1.wf, st_e (P := PvRep (kx X) H1) f1 p1 fun ly S2 w H2 g2 f2 e2 r2 p2 => ⟨L, S2, g2, f2.loc, f2.wf, st_e (P := PvRep (kx X) H2) f2 p2 fun lz S3 u H3 g3 f3 e3 r3 p3 =>
      let q2 := Fr.pv (Fr.pv f f1 r1 i) ((Fr.pv f f1 r1 i).ext e2 f2.wf) r2 j
      ⟨v, w, u, rfl, SPost.nx p3 (Fr.pv q2 (q2.ext e3 f3.wf) r3 l)⟩⟩⟩⟩
end
section
variable {xp : ExP} {PS : Fl → Ls → Sto → Prop} {PV' : LV → Sto → Prop} {L : Ls} {S : Sto} {m : EM} {mf : Ls → Sto → R (List D)} {A B C : PV} {i j l : Nat}
theorem r_pvV (h : wp (m L S) fun d S1 => PV' (.v d) S1) : wp (pvE (.v m) L S) PV' := by
  unfold pvE
  rw [wp_bind]
  exact h.mono fun d S1 k => ⟨k⟩
theorem r_pvO (h : wp (mf L S) fun ds S1 => PV' (.o (.lst ds)) S1) : wp (pvE (.o mf) L S) PV' := by
  unfold pvE
  rw [wp_bind]
  exact h.mono fun d S1 k => ⟨k⟩
theorem q_pv2 (h : wp (pvE A L S) fun x S1 => wp (pvE B L S1) fun y S2 => ∀ L', (L.set i x).set j y = L' → PS .nx L' S2) : wps (sPv2 i j A B L S) PS := by
  unfold sPv2
  rw [wps_st]
  refine h.mono fun x S1 h => ?_
  rw [wps_st]
  exact h.mono fun y S2 k => ⟨k _ rfl⟩
theorem q_pv3 (h : wp (pvE A L S) fun x S1 => wp (pvE B L S1) fun y S2 => wp (pvE C L S2) fun z S3 => ∀ L', ((L.set i x).set j y).set l z = L' → PS .nx L' S3) : wps (sPv3 i j l A B C L S) PS := by
  unfold sPv3
  rw [wps_st]
  refine h.mono fun x S1 h => ?_
  rw [wps_st]
  refine h.mono fun y S2 h => ?_
  rw [wps_st]
  exact h.mono fun z S3 k => ⟨k _ rfl⟩
instance : Wp (pvE (.v m) L S) PV' (wp (m L S) fun d S1 => PV' (.v d) S1) := ⟨r_pvV⟩
instance : Wp (pvE (.o mf) L S) PV' (wp (mf L S) fun ds S1 => PV' (.o (.lst ds)) S1) := ⟨r_pvO⟩
instance : Ws (sPv2 i j A B L S) PS (wp (pvE A L S) fun x S1 => wp (pvE B L S1) fun y S2 => ∀ L', (L.set i x).set j y = L' → PS .nx L' S2) := ⟨q_pv2⟩
instance : Ws (sPv3 i j l A B C L S) PS (wp (pvE A L S) fun x S1 => wp (pvE B L S1) fun y S2 => wp (pvE C L S2) fun z S3 => ∀ L', ((L.set i x).set j y).set l z = L' → PS .nx L' S3) := ⟨q_pv3⟩
end
end Rf
set_option Elab.async false
set_option linter.all false
set_option maxRecDepth 100000
set_option maxHeartbeats 4000000
namespace Rf
open PySem PySem.Spec PyProof.Rows L2 TL
section
variable {X : Cx}
/-- tuple * int for every number of times, else as oMul -/
def oMulU : D → D → Option D
  | .tup a, .int b => if -(2 ^ 63) ≤ b ∧ b ≤ 1000 ∧ a.length ≤ 1000 then some (.tup (List.replicate b.toNat a).flatten) else none
  | d, e => oMul d e
end
theorem x_mulUi {a b : Int} (h : a.natAbs.log2 + b.natAbs.log2 < 1000000) : oMulU (.int a) (.int b) = some (.int (a * b)) := if_pos h
theorem x_mulUt {a : List D} {b : Int} (h : -(2 ^ 63) ≤ b ∧ b ≤ 1000 ∧ a.length ≤ 1000) : oMulU (.tup a) (.int b) = some (.tup (List.replicate b.toNat a).flatten) := if_pos h
instance {a b : Int} : Og (oMulU (.int a) (.int b)) (.int (a * b)) (a.natAbs.log2 + b.natAbs.log2 < 1000000) := ⟨x_mulUi⟩
instance {a : List D} {b : Int} : Og (oMulU (.tup a) (.int b)) (.tup (List.replicate b.toNat a).flatten) (-(2 ^ 63) ≤ b ∧ b ≤ 1000 ∧ a.length ≤ 1000) := ⟨x_mulUt⟩
end Rf
set_option Elab.async false
set_option linter.all false
set_option maxRecDepth 100000
set_option maxHeartbeats 1000000
namespace Rf
open PySem L2 TL
def txKs : DctK → Option (List (List Nat))
  | [] => some []
  | (.inr s, _) :: r => (txKs r).map (s.cps.toList :: ·)
  | (.inl _, _) :: _ => none
/-- sorted(d) -/
def fSrtK (mo : EM) : Ls → Sto → R (List D) := fun L S => (mo L S).bind fun o S1 => match o with
  | .obj n => match S1[n]? with
    | some (.dK kvs) => match txKs kvs with
      | some ks => if ks.length < 64 ∧ ks.Nodup then .ok ((sortU ks).map .str) S1 else .no
      | none => .no
    | _ => .no
  | _ => .no
theorem r_fSrtK {m : EM} {L : Ls} {S : Sto} {xp : ExP} {PL : List D → Sto → Prop} (h : wp (m L S) fun o S1 => ∃ n kvs ks, o = .obj n ∧ S1[n]? = some (.dK kvs) ∧ txKs kvs = some ks ∧ ks.length < 64 ∧ ks.Nodup ∧ PL ((sortU ks).map .str) S1) : wp (fSrtK m L S) PL := by
  unfold fSrtK
  rw [wp_bind]
  refine h.mono fun o S1 ⟨n, kvs, ks, e, e1, e2, e3, e4, k⟩ => ?_
  subst e
  dsimp only
  rw [e1]
  dsimp only
  rw [e2]
  dsimp only
  rw [if_pos ⟨e3, e4⟩]
  exact ⟨k⟩
instance {m : EM} {L : Ls} {S : Sto} {xp : ExP} {PL : List D → Sto → Prop} : Wp (fSrtK m L S) PL (wp (m L S) fun o S1 => ∃ n kvs ks, o = .obj n ∧ S1[n]? = some (.dK kvs) ∧ txKs kvs = some ks ∧ ks.length < 64 ∧ ks.Nodup ∧ PL ((sortU ks).map .str) S1) := ⟨r_fSrtK⟩
def prE : List (EM × EM) → Ls → Sto → R (List (D × D))
  | [], _, S => .ok [] S
  | (mk, mv) :: r, L, S => (mk L S).bind fun x S1 => (mv L S1).bind fun y S2 => (prE r L S2).bind fun ps S3 => .ok ((x, y) :: ps) S3
def kyPs : List (D × D) → Option DctK
  | [] => some []
  | (x, y) :: r => match kKey x, kyPs r with
    | some q, some ps => some ((q, y) :: ps)
    | _, _ => none
def mgK (kvs more : DctK) : DctK := more.foldl (fun acc kv => dPutK acc kv.1 kv.2) kvs
def eDisp (prs : List (EM × EM)) : EM := fun L S => (prE prs L (S ++ [.dK []])).bind fun ps S1 => match S1[S.length]?, kyPs ps with
  | some (.dK []), some kvs => if kvs.length ≤ 15 then .ok (.obj S.length) (S1.set S.length (.dK (mgK [] kvs))) else .no
  | _, _ => .no
section
variable {X : Cx} {W : WX} {k : Kx} {H : Hp} {g : G}
def RepPs (k : Kx) (H : Hp) (g : G) : List (D × D) → List (V × V) → Prop
  | [], vs => vs = []
  | p :: ps, vs => ∃ v w r, vs = (v, w) :: r ∧ Rep k H g p.1 v ∧ Rep k H g p.2 w ∧ RepPs k H g ps r
theorem prE_pairs {σ : L2.St} : ∀ (prs : List (EM × EM)) {H : Hp} {Q : List (V × V) → Hp → Prop} {L : Ls} {S : Sto} {g : G}, LocRel k σ L H g → WF k H g S → Post k (RepPs k) H g (fun c d => W c d σ) (prE prs L S) Q →
    tPairs (prs.map fun p => (tE k W p.1, tE k W p.2)) σ H Q
  | [], H, Q, L, S, g, l, w, p => p _ _ g (Ext.refl H g) w rfl
  | (mk, mv) :: r, H, Q, L, S, g, l, w, p => ⟨L, S, g, l, w, Post.bind p fun d S1 v H1 g1 e1 w1 r1 p1 => ⟨L, S1, g1, l.ext e1, w1, Post.bind p1 fun d2 S2 v2 H2 g2 e2 w2 r2 p2 => prE_pairs r ((l.ext e1).ext e2) w2 (Post.bind p2 fun ps S3 vs H3 g3 e3 w3 r3 p3 =>
      p3 _ H3 g3 (Ext.refl H3 g3) w3 ⟨v, v2, vs, rfl, r1.mono (e2.trans e3).toPExt _ _, r2.mono e3.toPExt _ _, r3⟩)⟩⟩
theorem kyPs_ok : ∀ {ps : List (D × D)} {vs : List (V × V)} {kvs : DctK}, kyPs ps = some kvs → RepPs k H g ps vs → ∃ ws : List (Key × V), vs = ws.map (fun kv => (kV kv.1, kv.2)) ∧ ws.length = kvs.length ∧ ∀ {as : DctK} {bs : List (Key × V)}, KVK k H g as bs → KVK k H g (mgK as kvs) (mergeK bs ws)
  | [], vs, kvs, h, r => by
    cases h
    cases r
    exact ⟨[], rfl, rfl, fun q => q⟩
  | (x, y) :: ps, vs, kvs, h, r => by
    obtain ⟨v, w, rs, rfl, r1, r2, r3⟩ := r
    unfold kyPs at h
    split at h
    · rename_i q kv hq hk
      cases h
      obtain ⟨ws, e1, e2, e3⟩ := kyPs_ok hk r3
      refine ⟨(q, w) :: ws, ?_, by rw [List.length_cons, List.length_cons, e2], fun a => ?_⟩
      · rw [e1, List.map_cons, kKey_ok hq r1]
      · exact e3 (a.put r2)
    · cases h
theorem se_disp {pos : Pos} {keys : List (Option Expr)} {values : List Expr} {prs : List (EM × EM)} (h : PPs X pos keys values (prs.map fun p => (tE (kx X) W p.1, tE (kx X) W p.2))) (hall : keys.all (·.isSome) = true) (hl : keys.length = values.length) (h0 : keys ≠ [])
    (h15 : keys.length ≤ 15) : SE X W (.Dict keys values pos) (eDisp prs) :=
  PE.imp (pe_disp h hall hl h0 h15) fun σ H Q ⟨L, S, g, l, w, q⟩ => fun p hp => by
    have w2 : WF (kx X) (upd H p (.dK [])) (g.push p) (S ++ [.dK []]) := w.newPush hp ⟨[], upd_same, rfl⟩
    have e2 : Ext H g (upd H p (.dK [])) (g.push p) := Ext.newPush hp
    have hob : Rep (kx X) (upd H p (.dK [])) (g.push p) (.obj S.length) (.ref p) := by
      refine ⟨by rw [w.len]; exact Nat.lt_succ_self _, ?_⟩
      rw [w.len]
      show _ = V.ref (if g.n = g.n then p else g.ρ g.n)
      rw [if_pos rfl]
    refine prE_pairs prs (l.ext e2) w2 (Post.bind (q.from e2) fun ps S1 vs H1 g1 e1 w1 r1 p1 => ?_)
    split at p1
    · rename_i kvs z hk
      obtain ⟨ws, hw, rw⟩ := orK.mp (w1.ob _ _ z)
      cases rw
      obtain ⟨hn, hr⟩ := hob.mono e1.toPExt _ _
      have hpe : p = g1.ρ S.length := by cases hr; rfl
      obtain ⟨us, f1, f2, f3⟩ := kyPs_ok hk r1
      split at p1
      · rename_i hlen
        rw [hpe]
        refine ⟨hw, us, f1, by rw [f2]; exact hlen, ?_⟩
        have pe := w1.pe (u := .dK (mergeK [] us)) z
        obtain ⟨e3, w3⟩ := w1.chg (o' := .dK (mgK [] kvs)) (u := .dK (mergeK [] us)) z (orK.mpr ⟨_, upd_same, (f3 (as := []) (bs := []) rfl).mono pe⟩)
        exact p1 _ _ g1 e3 w3 ⟨hn, rfl⟩
      · exact p1.elim
    · exact p1.elim
theorem sps_nil {pos : Pos} : PPs X pos [] [] (([] : List (EM × EM)).map fun p => (tE (kx X) W p.1, tE (kx X) W p.2)) := pps_nil
theorem sps_cons {pos : Pos} {k v : Expr} {ks : List (Option Expr)} {vs : List Expr} {mk mv : EM} {prs : List (EM × EM)} (hk : SE X W k mk) (hv : SE X W v mv) (hr : PPs X pos ks vs (prs.map fun p => (tE (kx X) W p.1, tE (kx X) W p.2))) :
    PPs X pos (some k :: ks) (v :: vs) (((mk, mv) :: prs).map fun p => (tE (kx X) W p.1, tE (kx X) W p.2)) := pps_cons hk hv hr
end
section
variable {L : Ls} {S : Sto} {xp : ExP} {P : D → Sto → Prop} {PP : List (D × D) → Sto → Prop}
theorem r_prNil (h : PP [] S) : wp (prE [] L S) PP := ⟨h⟩
theorem r_prCons {mk mv : EM} {r : List (EM × EM)} (h : wp (mk L S) fun x S1 => wp (mv L S1) fun y S2 => wp (prE r L S2) fun ps S3 => PP ((x, y) :: ps) S3) : wp (prE ((mk, mv) :: r) L S) PP := by
  unfold prE
  rw [wp_bind]
  refine h.mono fun x S1 k => ?_
  rw [wp_bind]
  refine k.mono fun y S2 k => ?_
  rw [wp_bind]
  exact k.mono fun ps S3 k => ⟨k⟩
instance : Wp (prE [] L S) PP (PP [] S) := ⟨r_prNil⟩
instance {mk mv : EM} {r : List (EM × EM)} : Wp (prE ((mk, mv) :: r) L S) PP (wp (mk L S) fun x S1 => wp (mv L S1) fun y S2 => wp (prE r L S2) fun ps S3 => PP ((x, y) :: ps) S3) := ⟨r_prCons⟩
theorem r_disp {prs : List (EM × EM)} (h : ∀ S0, S ++ [.dK []] = S0 → wp (prE prs L S0) fun ps S1 => ∀ n, S.length = n → S1[n]? = some (.dK []) ∧ ∃ kvs, kyPs ps = some kvs ∧ kvs.length ≤ 15 ∧ ∀ S', S1.set n (.dK (mgK [] kvs)) = S' → P (.obj n) S') : wp (eDisp prs L S) P := by
  unfold eDisp
  rw [wp_bind]
  refine (h _ rfl).mono fun ps S1 k => ?_
  obtain ⟨e1, kvs, e2, e3, k⟩ := k _ rfl
  rw [e1, e2]
  dsimp only
  rw [if_pos e3]
  exact ⟨k _ rfl⟩
instance {prs : List (EM × EM)} : Wp (eDisp prs L S) P (∀ S0, S ++ [.dK []] = S0 → wp (prE prs L S0) fun ps S1 => ∀ n, S.length = n → S1[n]? = some (.dK []) ∧ ∃ kvs, kyPs ps = some kvs ∧ kvs.length ≤ 15 ∧ ∀ S', S1.set n (.dK (mgK [] kvs)) = S' → P (.obj n) S') := ⟨r_disp⟩
end
end Rf
set_option Elab.async false
set_option linter.all false
set_option maxRecDepth 100000
set_option maxHeartbeats 1000000
namespace Rf
open PySem L2 TL
def fSl (ma : EM) (ml mh : Ls → Sto → R (Option Int)) : Ls → Sto → R (List D) := fun L S => (ma L S).bind fun d S1 => (ml L S1).bind fun lo S2 => (mh L S2).bind fun hi S3 => match deref S3 d with
  | .lst xs => .ok (cutD xs lo hi) S3
  | _ => .no
instance {m : EM} {ml mh : Ls → Sto → R (Option Int)} {L : Ls} {S : Sto} {xp : ExP} {PL : List D → Sto → Prop} : Wp (fSl m ml mh L S) PL (wp (m L S) fun d S1 => wp (ml L S1) fun lo S2 => wp (mh L S2) fun hi S3 => ∃ xs, deref S3 d = .lst xs ∧ PL (cutD xs lo hi) S3) := ⟨fun h => by
  unfold fSl
  rw [wp_bind]
  refine h.mono fun d S1 k => ?_
  rw [wp_bind]
  refine k.mono fun lo S2 k => ?_
  rw [wp_bind]
  refine k.mono fun hi S3 ⟨xs, e, k⟩ => ?_
  rw [e]
  exact ⟨k⟩⟩
end Rf
set_option Elab.async false
set_option linter.all false
set_option maxRecDepth 100000
set_option maxHeartbeats 1000000
namespace Rf
open PySem L2 TL
def oIdx (ds : List D) (e : D) : Option D := if shp (.lst ds) && shp e then (ds.findIdx? fun z => eqv z e).map fun j : Nat => D.int (j : Int) else none
def eIdx (mo me : EM) : EM := fun L S => (mo L S).bind fun d S1 => match d with
  | .lst ds => (me L S1).bind fun y S2 => lift (oIdx ds y) S2
  | _ => .no
theorem r_idx {mo me : EM} {L : Ls} {S : Sto} {xp : ExP} {P : D → Sto → Prop} (h : wp (mo L S) fun d S1 => ∃ ds, d = .lst ds ∧ wp (me L S1) fun y S2 => ∃ z, oIdx ds y = some z ∧ P z S2) : wp (eIdx mo me L S) P := by
  unfold eIdx
  rw [wp_bind]
  refine h.mono fun d S1 ⟨ds, e, k⟩ => ?_
  subst e
  dsimp only
  rw [wp_bind]
  refine k.mono fun y S2 ⟨z, e, k⟩ => ?_
  rw [e]
  exact ⟨k⟩
instance {mo me : EM} {L : Ls} {S : Sto} {xp : ExP} {P : D → Sto → Prop} : Wp (eIdx mo me L S) P (wp (mo L S) fun d S1 => ∃ ds, d = .lst ds ∧ wp (me L S1) fun y S2 => ∃ z, oIdx ds y = some z ∧ P z S2) := ⟨r_idx⟩
end Rf
set_option Elab.async false
set_option linter.all false
set_option maxRecDepth 100000
set_option maxHeartbeats 4000000
namespace Rf
open PySem PySem.Spec PySem.SeqAt PyProof.Rows L2 TL
section
variable {X : Cx}
/-- plus and minus, the left one a truth value, too -/
def oAddU : D → D → Option D
  | .bl a, .int i => some (.int ((if a = true then (1 : Int) else 0) + i))
  | d, e => oAdd d e
def oSubU : D → D → Option D
  | .bl a, .int i => some (.int ((if a = true then (1 : Int) else 0) - i))
  | d, e => oSub d e
/-- ==, the left one an empty dict, too -/
def cEqU : D → D → Option D
  | .edc, .str _ => some (.bl false)
  | d, e => cEq d e
end
instance {a b : Int} : Op (oAddU (.int a) (.int b)) (.int (a + b)) := ⟨rfl⟩
instance {a : Bool} {b : Int} : Op (oAddU (.bl a) (.int b)) (.int ((if a = true then (1 : Int) else 0) + b)) := ⟨rfl⟩
instance {a b : Int} : Op (oSubU (.int a) (.int b)) (.int (a - b)) := ⟨rfl⟩
instance {a : Bool} {b : Int} : Op (oSubU (.bl a) (.int b)) (.int ((if a = true then (1 : Int) else 0) - b)) := ⟨rfl⟩
end Rf
set_option Elab.async false
set_option linter.all false
set_option maxRecDepth 100000
set_option maxHeartbeats 4000000
namespace Rf
open PySem L2 TL
/-- the class at C has no __init__ but object's -/
structure Mk0 (K : PySem.W.Frag) (C : Addr) : Prop where
  makes : PySem.W.makesIn K C = true
  init : PySem.W.findIn K (.ref C) "__init__" = some (some (.builtin "object.__init__"))
  kp : PySem.W.keepIn K (.ref C) = true
section
variable {X : Cx} {W : WX} {pos p : Pos}
/-- the class c of the module can be made without arguments -/
structure MkC0 (X : Cx) (c : Str) : Prop where
  ex : ∃ C, X.mg c = some (.ref C) ∧ Mk0 X.K C
def eMk0 (c : Str) : EM := fun L S => .ok (.obj S.length) (S ++ [.ins c [] []])
theorem r_mk0 {c : Str} {L : Ls} {S : Sto} {P : D → Sto → Prop} {xp : ExP} (h : ∀ n, S.length = n → ∀ S', S ++ [.ins c [] []] = S' → P (.obj n) S') : wp (eMk0 c L S) P := ⟨h _ rfl _ rfl⟩
instance {c : Str} {L : Ls} {S : Sto} {P : D → Sto → Prop} {xp : ExP} : Wp (eMk0 c L S) P (∀ n, S.length = n → ∀ S', S ++ [.ins c [] []] = S' → P (.obj n) S') := ⟨r_mk0⟩
end
section
variable {P : Program} {w : World} {K : PySem.W.Frag} {mg : Str → Option Value} {h : Heap} {fa : List He.Fa} {fn : List He.DefD} {c : Str}
def Mk0F (K : PySem.W.Frag) (mg : Str → Option Value) (c : Str) : Prop := ∃ C, mg c = some (.ref C) ∧ Mk0 K C
theorem Mk0F.at {X : Cx} (f : Mk0F K mg c) (h3 : X.K = K) (h4 : X.mg = mg) : MkC0 X c := by
  subst h3 h4
  exact ⟨f⟩
end
end Rf
set_option Elab.async false
set_option linter.all false
set_option maxRecDepth 100000
set_option maxHeartbeats 1000000
namespace Rf
open PySem L2 TL
def eLenK (mo : EM) : EM := fun L S => (mo L S).bind fun o S1 => match o with
  | .obj n => match S1[n]? with
    | some (.dK kvs) => .ok (.int (kvs.length : Nat)) S1
    | _ => .no
  | _ => .no
theorem r_lenK {m : EM} {L : Ls} {S : Sto} {xp : ExP} {P : D → Sto → Prop} (h : wp (m L S) fun o S1 => ∃ n kvs, o = .obj n ∧ S1[n]? = some (.dK kvs) ∧ P (.int (kvs.length : Nat)) S1) : wp (eLenK m L S) P := by
  unfold eLenK
  rw [wp_bind]
  refine h.mono fun o S1 ⟨n, kvs, e, e1, k⟩ => ?_
  subst e
  dsimp only
  rw [e1]
  exact ⟨k⟩
instance {m : EM} {L : Ls} {S : Sto} {xp : ExP} {P : D → Sto → Prop} : Wp (eLenK m L S) P (wp (m L S) fun o S1 => ∃ n kvs, o = .obj n ∧ S1[n]? = some (.dK kvs) ∧ P (.int (kvs.length : Nat)) S1) := ⟨r_lenK⟩
end Rf
set_option Elab.async false
set_option linter.all false
set_option maxRecDepth 100000
set_option maxHeartbeats 4000000
namespace Rf
open PySem L2 TL
def eIsI (ms : List (Str × Bool)) (mo : EM) : EM := fun L S => (mo L S).bind fun d S1 => match insOf S1 d with
  | some (c, _, _) => lift ((ms.lookup c).map D.bl) S1
  | none => .no
section
variable {X : Cx} {W : WX} {o : Expr} {D : Str} {p p2 pos : Pos} {ms : List (Str × Bool)} {mo : EM}
theorem r_isI {L : Ls} {S : Sto} {P : Rf.D → Sto → Prop} {xp : ExP} (h : wp (mo L S) fun d S1 => ∃ c ns ds, insOf S1 d = some (c, ns, ds) ∧ ∃ b, ms.lookup c = some b ∧ P (.bl b) S1) : wp (eIsI ms mo L S) P := by
  unfold eIsI
  rw [wp_bind]
  refine h.mono fun d S1 ⟨c, ns, ds, e1, b, e2, k⟩ => ?_
  rw [e1]
  dsimp only
  rw [e2]
  exact ⟨k⟩
instance {L : Ls} {S : Sto} {P : Rf.D → Sto → Prop} {xp : ExP} : Wp (eIsI ms mo L S) P (wp (mo L S) fun d S1 => ∃ c ns ds, insOf S1 d = some (c, ns, ds) ∧ ∃ b, ms.lookup c = some b ∧ P (.bl b) S1) := ⟨r_isI⟩
end
end Rf
set_option Elab.async false
set_option linter.all false
set_option maxRecDepth 100000
set_option maxHeartbeats 4000000
namespace Rf
open PySem L2 TL
structure CalC (X : Cx) (c : Str) (F : Fn) : Prop where
  ex : ∃ (C f : Addr) (fd : FuncData) (ps : List Str) (j : Nat), X.mg c = some (.ref C) ∧ StX.CallO X.K C f ∧ FnOkG X.prog X.w X.K X.mg X.base (L2.CX X.prog X.w) j f fd ps (spC (k0 X.K X.mg X.w) F) ∧ RoomG j X.A ∧ Binds X.K fd ps []
def eCo (ms : List (Str × Fn)) (mo : EM) (ma : Ls → Sto → R (List D)) : EM := fun L S => (mo L S).bind fun d S1 => match insOf S1 d with
  | some (c, _, _) => match ms.lookup c with
    | some F => (ma L S1).bind fun as S2 => match insOf S2 d with
      | some (c', _, _) => if c' = c then F (d :: as) S2 else .no
      | none => .no
    | none => .no
  | none => .no
section
variable {ms : List (Str × Fn)} {mo : EM} {ma : Ls → Sto → R (List D)} {L : Ls} {S : Sto} {P : D → Sto → Prop} {xp : ExP}
theorem r_co (h : wp (mo L S) fun d S1 => ∃ c ns ds, insOf S1 d = some (c, ns, ds) ∧ ∃ F, ms.lookup c = some F ∧ wp (ma L S1) fun as S2 => ∃ ns' ds', insOf S2 d = some (c, ns', ds') ∧ wp (F (d :: as) S2) P) : wp (eCo ms mo ma L S) P := by
  unfold eCo
  rw [wp_bind]
  refine h.mono fun d S1 ⟨c, ns, ds, e1, F, e2, k⟩ => ?_
  rw [e1]
  dsimp only
  rw [e2]
  dsimp only
  rw [wp_bind]
  refine k.mono fun as S2 ⟨ns', ds', e3, k⟩ => ?_
  rw [e3]
  dsimp only
  rw [if_pos rfl]
  exact k
instance : Wp (eCo ms mo ma L S) P (wp (mo L S) fun d S1 => ∃ c ns ds, insOf S1 d = some (c, ns, ds) ∧ ∃ F, ms.lookup c = some F ∧ wp (ma L S1) fun as S2 => ∃ ns' ds', insOf S2 d = some (c, ns', ds') ∧ wp (F (d :: as) S2) P) := ⟨r_co⟩
end
/-- instances of c are called by the __call__ of D -/
def CalF (K : PySem.W.Frag) (mg : Str → Option Value) (c D : Str) : Prop := ∃ C, mg c = some (.ref C) ∧ StX.CallO K C (He.ma K (He.ga K D) "__call__")
theorem MthIn.call {P : Program} {w : World} {K : PySem.W.Frag} {mg : Str → Option Value} {base : Heap} {D c : Str} {i j : Nat} {F : Fn} {X : Cx} (h : MthIn P w K mg base D "__call__" j F) (f : CalF K mg c D) (hr : RoomG i X.A) (hl : j ≤ i)
    (h1 : X.prog = P) (h2 : X.w = w) (h3 : X.K = K) (h4 : X.mg = mg) (h5 : X.base = base) : CalC X c F := by
  subst h1 h2 h3 h4 h5
  obtain ⟨fd, ps, F, hb⟩ := h.ex
  obtain ⟨C, hC, cl⟩ := f
  exact ⟨C, _, fd, ps, j, hC, cl, F, hr.mono hl, hb⟩
def spStar (k : Kx) (F : Fn) : Sp := fun vs H Q E => ∃ ws rest, vs = ws ++ rest ∧ ws.length = 1 ∧ rest.length ≤ sizeLine ∧ ∀ p, H p = none → spC k F (ws ++ [V.ref p]) (upd H p (.tup rest)) Q E
def eMkS (c : Str) (F : Fn) (ma : Ls → Sto → R (List D)) : EM := fun L S => (ma L S).bind fun ds S1 => if ds.length ≤ sizeLine then mkR S1.length (F [.obj S1.length, .tup ds] (S1 ++ [.ins c [] []])) else .no
section
variable {X : Cx} {W : WX} {e : Expr} {p pos : Pos} {es : List Expr} {ma : Ls → Sto → R (List D)} {c : Str} {F : Fn}
theorem spStar.kc {k k' : Kx} {F : Fn} {vs : List V} {H : Hp} {Q : VK} {E : XK} (h1 : k'.K = k.K) (h2 : k'.mg = k.mg) (h3 : k'.w = k.w) (h : spStar k F vs H Q E) : spStar k' F vs H Q E := by
  obtain ⟨ws, rest, e1, e2, e3, h⟩ := h
  exact ⟨ws, rest, e1, e2, e3, fun p hp => spC.kc h1 h2 h3 (h p hp)⟩
end
end Rf
set_option Elab.async false
set_option linter.all false
set_option maxRecDepth 100000
set_option maxHeartbeats 4000000
namespace Rf
open PySem L2 TL
section
variable {ma : Ls → Sto → R (List D)} {L : Ls} {S : Sto} {P : D → Sto → Prop} {xp : ExP} {c : Str} {F : Fn}
theorem r_mkS (h : wp (ma L S) fun ds S1 => ds.length ≤ sizeLine ∧ @wp noXP _ (F [.obj S1.length, .tup ds] (S1 ++ [.ins c [] []])) fun d S3 => d = .non ∧ P (.obj S1.length) S3) : wp (eMkS c F ma L S) P := by
  unfold eMkS
  rw [wp_bind]
  refine h.mono fun ds S1 ⟨hz, k⟩ => ?_
  rw [if_pos hz]
  obtain ⟨d, S3, e, rfl, k⟩ := k.ex
  rw [e]
  exact ⟨k⟩
instance : Wp (eMkS c F ma L S) P (wp (ma L S) fun ds S1 => ds.length ≤ sizeLine ∧ @wp noXP _ (F [.obj S1.length, .tup ds] (S1 ++ [.ins c [] []])) fun d S3 => d = .non ∧ P (.obj S1.length) S3) := ⟨r_mkS⟩
end
end Rf
set_option Elab.async false
set_option linter.all false
set_option maxRecDepth 100000
set_option maxHeartbeats 4000000
namespace Rf
open PySem PySem.W PySem.Calls PyProof.Rows PySem.HandSPX Builtin Builtin.ObjectAttr
end Rf
set_option Elab.async false
set_option linter.all false
set_option maxRecDepth 100000
set_option maxHeartbeats 4000000
namespace Rf
open PySem L2 TL
/-- isinstance(the error, (C1, C2)) -/
def eIs2 (t1 t2 : IsT) (i : Nat) : EM := fun L S => match L[i]? with
  | some (.exc x) => if x.fs.isEmpty = true then .no else match t1 x.cls, t2 x.cls with
    | some b1, some b2 => .ok (.bl (b1 || b2)) S
    | _, _ => .no
  | _ => .no
section
variable {t1 t2 : IsT} {i : Nat} {L : Ls} {S : Sto} {P : D → Sto → Prop} {xp : ExP}
theorem r_is2 (h : ∃ x, L[i]? = some (.exc x) ∧ x.fs.isEmpty = false ∧ ∃ b1, t1 x.cls = some b1 ∧ ∃ b2, t2 x.cls = some b2 ∧ P (.bl (b1 || b2)) S) : wp (eIs2 t1 t2 i L S) P := by
  obtain ⟨x, e1, e2, b1, e3, b2, e4, k⟩ := h
  unfold eIs2
  rw [e1]
  simp only [e2, Bool.false_eq_true, if_false, e3, e4]
  exact ⟨k⟩
instance : Wp (eIs2 t1 t2 i L S) P (∃ x, L[i]? = some (.exc x) ∧ x.fs.isEmpty = false ∧ ∃ b1, t1 x.cls = some b1 ∧ ∃ b2, t2 x.cls = some b2 ∧ P (.bl (b1 || b2)) S) := ⟨r_is2⟩
end
end Rf
set_option Elab.async false
set_option linter.all false
set_option maxRecDepth 100000
set_option maxHeartbeats 1000000
namespace Rf
open PySem L2 TL
end Rf
set_option Elab.async false
set_option linter.all false
set_option maxRecDepth 100000
set_option maxHeartbeats 1000000
namespace Rf
open PySem L2 TL
section
variable {X : Cx} {W : WX} {e : Expr} {m : EM} {pos pos' : Pos}
def sExtT (i : Nat) (m : EM) : SM := fun L S => match L[i]? with
  | some (.o (.lst ds)) => (m L S).st L fun d S1 => match d with
    | .tup es => if ds.length + es.length ≤ sizeLine then .ok .nx (L.set i (.o (.lst (ds ++ es)))) S1 else .no
    | _ => .no
  | _ => .no
variable {L : Ls} {S : Sto} {PS : Fl → Ls → Sto → Prop} {i : Nat}
instance : Ws (sExtT i m L S) PS (∃ ds, L[i]? = some (.o (.lst ds)) ∧ wp (m L S) fun d S1 => ∃ es, d = .tup es ∧ ds.length + es.length ≤ sizeLine ∧ PS .nx (L.set i (.o (.lst (ds ++ es)))) S1) := ⟨fun ⟨ds, e, h⟩ => by
  unfold sExtT
  rw [e]
  dsimp only
  rw [wps_st]
  refine h.mono fun d S1 ⟨es, e, hz, h⟩ => ?_
  subst e
  dsimp only
  rw [if_pos hz]
  exact ⟨h⟩⟩
end
end Rf
set_option Elab.async false
set_option linter.all false
set_option maxRecDepth 100000
set_option maxHeartbeats 1000000
namespace Rf
open PySem L2 TL
end Rf
set_option Elab.async false
set_option linter.all false
set_option maxRecDepth 100000
set_option maxHeartbeats 1000000
namespace Rf
open PySem L2 TL PyProof.Rows
/-- the dict at a holds o for the key at y -/
def NGet (w : World) (K : PySem.W.Frag) (H : Hp) (a : Addr) (y : V) (o : Option V) : Prop := ∃ es q b, H a = some (NDx w a es) ∧ (es.map (·.1)).Nodup ∧ NKeys K H es ∧ y = .ref b ∧ KIs K H q (.ref b) ∧ q.depth ≤ 8 ∧ o = nVal es q
def NPut (w : World) (K : PySem.W.Frag) (H : Hp) (a : Addr) (y v : V) (H' : Hp) : Prop := ∃ es q b, H a = some (NDx w a es) ∧ (es.map (·.1)).Nodup ∧ NKeys K H es ∧ y = .ref b ∧ KIs K H q (.ref b) ∧ q.depth ≤ 8 ∧ es.length < sizeLine ∧ nVal es q = none ∧ H' = upd H a (NDx w a (es ++ [(q, b, v)]))
section
variable {X : Cx} {pins : List (Addr × Obj)} {σ : L2.St} {H : Hp} {s : Shared} {a : Addr} {y v : V} {u r : Value} {o : Option V} {A : Around} {E : Value → Shared → Prop}
theorem nget_typeIs (I : Inv X pins σ H s) (g : NGet X.w X.K H a y o) : s.TypeIs (.ref a) "dict" := by
  obtain ⟨es, q, b, e, nd, hk, _⟩ := g
  obtain ⟨us, rv, hlen, dd⟩ := nd_dict I e nd hk
  exact dd.typeIs
theorem n_getItem {Q : Value → Shared → Prop} (hu : A.units + 9 < cLine) (I : Inv X pins σ H s) (g : NGet X.w X.K H a y (some v)) (ry : RelV y u) (h : ∀ w' s', Inv X pins σ H s' → RelV v w' → Q w' s') :
    wpAny (model X.prog X.w) A (getItem (.ref a) u) Q E s := by
  obtain ⟨es, q, b, e, nd, hk, rfl, hq, hd, hv⟩ := g
  cases (show u = Value.ref b from ry)
  obtain ⟨us, rv, hlen, dd⟩ := nd_dict I e nd hk
  obtain ⟨p, hp, rp⟩ := (nXs_get (q := q) rv).1 v hv.symm
  exact wpAny_getItem_heap (knd := nestedKind X.prog X.w) (k := q) (show A.in1.units + 8 < cLine by simp only [Around.in1_units]; omega) ⟨nest_of I q _ _ hq rfl, hd⟩ dd hp (h _ _ (I.tok _) rp)
theorem n_some {es : NEnt} {us : List Value} {q : NestedKey} (rv : Vals (es.map (·.2.2)) us) : (atKey (nXs es us) q).isSome = (nVal es q).isSome := by
  obtain ⟨g1, g2⟩ := nXs_get (q := q) rv
  cases hv : nVal es q with
  | none => rw [g2 hv]; rfl
  | some v =>
    obtain ⟨p, hp, _⟩ := g1 v hv
    rw [hp]; rfl
theorem n_notIn {Q : Value → Shared → Prop} (hu : A.units + 9 < cLine) (I : Inv X pins σ H s) (g : NGet X.w X.K H a y o) (ry : RelV y u) (h : ∀ s', Inv X pins σ H s' → Q (.bool (!o.isSome)) s') :
    wpAny (model X.prog X.w) A (compareOp .NotIn u (.ref a)) Q E s := by
  obtain ⟨es, q, b, e, nd, hk, rfl, hq, hd, rfl⟩ := g
  cases (show u = Value.ref b from ry)
  obtain ⟨us, rv, hlen, dd⟩ := nd_dict I e nd hk
  obtain ⟨_, hs, _⟩ := nd_at I e
  refine wpAny_notIn_heap (knd := nestedKind X.prog X.w) (k := q) (show A.in1.units + 8 < cLine by simp only [Around.in1_units]; omega) ⟨nest_of I q _ _ hq rfl, hd⟩ hs dd ?_
  rw [n_some rv]
  exact h _ (I.tok _)
theorem n_setItem {H' : Hp} {Q : Unit → Shared → Prop} (hu : A.units + 9 < cLine) (I : Inv X pins σ H s) (g : NPut X.w X.K H a y v H') (ry : RelV y u) (rz : RelV v r) (h : ∀ s', Inv X pins σ H' s' → Q () s') :
    wpAny (model X.prog X.w) A (setItem (.ref a) u r) Q E s := by
  obtain ⟨es, q, b, e, nd, hk, rfl, hq, hd, hl, hv, rfl⟩ := g
  cases (show u = Value.ref b from ry)
  obtain ⟨us, rv, hlen, dd⟩ := nd_dict I e nd hk
  obtain ⟨_, hs, _⟩ := nd_at I e
  have hn := (nXs_get (q := q) rv).2 hv
  refine wpAny_setItem_heap (knd := nestedKind X.prog X.w) (k := q) (show A.in1.units + 8 < cLine by simp only [Around.in1_units]; omega) ⟨nest_of I q _ _ hq rfl, hd⟩ dd (fun h' dd' hsb => h _ ?_) (by rw [nXs_len hlen]; omega)
  rw [storedH_new hn, nXs_snoc (v := v) hlen] at dd'
  have he : ∃ q, h'.get? a = some q := let ⟨q, _, _, hq, _⟩ := dd'; ⟨q, hq⟩
  refine d_write (t' := s.toks + (nestedKind X.prog X.w).draws q) I (by rw [e]; exact True.intro) hsb he (nd_new (us := us ++ [r]) (by rw [List.length_append]; simp only [List.length_singleton]; omega) hs ?_ dd')
  rw [List.map_append]
  exact rv.append (.cons rz .nil)
end
def tNGet (w : World) (K : PySem.W.Frag) (td ty : TE) : TE := fun σ H Q => td σ H fun x H1 => ty σ H1 fun y H2 => ∃ a v, x = .ref a ∧ NGet w K H2 a y (some v) ∧ Q v H2
def tNNotIn (w : World) (K : PySem.W.Frag) (ty td : TE) : TE := fun σ H Q => ty σ H fun y H1 => td σ H1 fun x H2 => ∃ a o, x = .ref a ∧ NGet w K H2 a y o ∧ Q (.bl (!o.isSome)) H2
def sNPut (w : World) (K : PySem.W.Frag) (td ty tv : TE) : TS := fun D σ H => tv σ H fun v H1 => td σ H1 fun x H2 => ty σ H2 fun y H3 => ∃ a H4, x = .ref a ∧ NPut w K H3 a y v H4 ∧ D.nx σ H4
section
variable {X : Cx} {o i value : Expr} {td ty tv : TE} {pos pos' : Pos}
theorem pe_nget (hu : X.A.units + 9 < cLine) (ho : PE X o td) (hi : PE X i ty) (hs : NoSl i) : PE X (.Subscript o i pos) (tNGet X.w X.K td ty) := by
  refine ⟨fun pins s σ H Q I h => ?_⟩
  refine subD_of PySem.F.slot_dict_getitem.lookup hs (thn (ho.run pins s σ H _ I h) fun u s1 ⟨x, H1, I1, rx, q1⟩ => thn (hi.run pins s1 σ H1 _ I1 q1) fun iv s2 ⟨y, H2, I2, ry, a, v, ex, g, q2⟩ => ?_)
  subst ex
  obtain rfl : u = Value.ref a := rx
  exact ⟨nget_typeIs I2 g, n_getItem hu I2 g ry fun w' s3 I3 rw' => ⟨v, H2, I3, rw', q2⟩⟩
theorem pc_nnotin (hu : X.A.units + 9 < cLine) (hi : PE X i ty) (ho : PE X o td) : PC X .NotIn i o (tNNotIn X.w X.K ty td) := by
  refine ⟨fun pins s σ H Q I h => ?_⟩
  refine thn (hi.run pins s σ H _ I h) fun iv s1 ⟨y, H1, I1, ry, q1⟩ => thn (ho.run pins s1 σ H1 _ I1 q1) fun u s2 ⟨x, H2, I2, rx, a, ov, ex, g, q2⟩ => ?_
  subst ex
  obtain rfl : u = Value.ref a := rx
  exact n_notIn hu I2 g ry fun s3 I3 => ⟨.bl (!ov.isSome), H2, I3, rfl, q2⟩
theorem ps_nput (hu : X.A.units + 9 < cLine) (ho : PE X o td) (hi : PE X i ty) (hv : PE X value tv) (hs : swapsWith value (some (.Subscript o i pos')) pos.line X.env = pure false) :
    PS X (.Assign [.Subscript o i pos'] value pos) (sNPut X.w X.K td ty tv) := by
  refine ⟨fun pins s σ H D I h => ?_⟩
  refine wpAny_Assign_Subscript (thn (hv.run pins s σ H _ I h) fun r s1 ⟨v, H1, I1, rv, q1⟩ => thn (ho.run pins s1 σ H1 _ I1 q1) fun u s2 ⟨x, H2, I2, rx, q2⟩ => thn (hi.run pins s2 σ H2 _ I2 q2) fun iv s3 ⟨y, H3, I3, ry, a, H4, ex, g, q3⟩ => ?_) hs
  subst ex
  obtain rfl : u = Value.ref a := rx
  exact n_setItem hu I3 g ry rv fun s4 I4 => ⟨σ, H4, I4, q3⟩
end
def nLook (S : Sto) (o y : D) : Option (Option D) := match o, kNk y with
  | .obj n, some q => match S[n]? with
    | some (.dN kvs) => some (nGet kvs q)
    | _ => none
  | _, _ => none
def eGetN (mo mk : EM) : EM := fun L S => (mo L S).bind fun o S1 => (mk L S1).bind fun y S2 => match nLook S2 o y with
  | some (some d) => .ok d S2
  | _ => .no
def eInN (neg : Bool) (mk mo : EM) : EM := fun L S => (mk L S).bind fun y S1 => (mo L S1).bind fun o S2 => match nLook S2 o y with
  | some r => .ok (.bl (neg != r.isSome)) S2
  | none => .no
/-- d[k] = v, a new key -/
def sPutN (mo mk mv : EM) : SM := fun L S => (mv L S).st L fun d S1 => (mo L S1).st L fun o S2 => (mk L S2).st L fun y S3 => match o, kNk y with
  | .obj n, some q => match S3[n]? with
    | some (.dN kvs) => if kvs.length < sizeLine ∧ nGet kvs q = none then .ok .nx L (S3.set n (.dN (kvs ++ [(q, d)]))) else .no
    | _ => .no
  | _, _ => .no
section
variable {k : Kx} {H : Hp} {g : G} {S : Sto}
theorem nLook_rep {o y : D} {x w : V} {r : Option D} (wf : WF k H g S) (ro : Rep k H g o x) (ry : Rep k H g y w) (h : nLook S o y = some r) : ∃ a ov, x = .ref a ∧ NGet k.w k.K H a w ov ∧ (∀ d, r = some d → ∃ v, ov = some v ∧ Rep k H g d v) ∧ (r = none → ov = none) := by
  unfold nLook at h
  split at h
  · rename_i n q hq
    obtain ⟨hn, rfl⟩ := ro
    split at h
    · rename_i kvs e
      cases h
      obtain ⟨b, rfl, kq, hd⟩ := kNk_ok hq ry
      obtain ⟨es, ha, ef, nd, hk, rl⟩ := wf.ob n _ e
      obtain ⟨g1, g2⟩ := nget_of (q := q) ef rl
      exact ⟨_, nVal es q, rfl, ⟨es, q, b, ha, by rw [ef]; exact nd, hk, rfl, kq, hd, rfl⟩, g1, g2⟩
    · cases h
  · cases h
end
section
variable {X : Cx} {W : WX} {o e f ix : Expr} {pos pos' ps apos cpos : Pos} {mo mk mv md : EM}
theorem se_getN (hu : X.A.units + 9 < cLine) (ho : SE X W o mo) (hi : SE X W ix mk) (hs : NoSl ix) : SE X W (.Subscript o ix pos) (eGetN mo mk) :=
  PE.imp (pe_nget hu ho hi hs) fun σ H Q ⟨L, S, g, l, w, p⟩ => ⟨L, S, g, l, w, Post.bind p fun od S1 x H1 g1 e1 w1 r1 p1 => ⟨L, S1, g1, l.ext e1, w1, Post.bind p1 fun y S2 v H2 g2 e2 w2 r2 p2 => by
    split at p2
    · rename_i d q
      obtain ⟨a, ov, rfl, hg, h1, _⟩ := nLook_rep w2 (r1.mono e2.toPExt _ _) r2 q
      obtain ⟨v', rfl, rv⟩ := h1 d rfl
      exact ⟨a, v', rfl, hg, Post.ret p2 w2 rv⟩
    · exact p2.elim⟩⟩
theorem isS_of {α β : Type} {r : Option α} {o : Option β} {P : α → β → Prop} (h1 : ∀ d, r = some d → ∃ v, o = some v ∧ P d v) (h2 : r = none → o = none) : o.isSome = r.isSome := by
  cases r with
  | none => rw [h2 rfl]; rfl
  | some d => obtain ⟨v, e, _⟩ := h1 d rfl; rw [e]; rfl
theorem nnotIn_read {σ : L2.St} {H : Hp} {Q : VK} {k : Kx} (h : tE k W (eInN true mk mo) σ H Q) : tNNotIn k.w k.K (tE k W mk) (tE k W mo) σ H Q := by
  obtain ⟨L, S, g, l, w, p⟩ := h
  exact ⟨L, S, g, l, w, Post.bind p fun y S1 v H1 g1 e1 w1 r1 p1 => ⟨L, S1, g1, l.ext e1, w1, Post.bind p1 fun od S2 x H2 g2 e2 w2 r2 p2 => by
    split at p2
    · rename_i r q
      obtain ⟨a, ov, hx, hg, h1, h2⟩ := nLook_rep w2 r2 (r1.mono e2.toPExt _ _) q
      refine ⟨a, ov, hx, hg, ?_⟩
      rw [isS_of h1 h2]
      have : (true != r.isSome) = !r.isSome := by cases r.isSome <;> rfl
      rw [this] at p2
      exact Post.ret p2 w2 rfl
    · exact p2.elim⟩⟩
theorem st_notInN (hu : X.A.units + 9 < cLine) (hi : SE X W e mk) (ho : SE X W o mo) (hm : behindInMarks .NotIn o = false) : ST X W (.Compare e [.NotIn] [o] pos) (tOfE (eInN true mk mo)) :=
  PT.imp (pt_cmp (pc_nnotin hu hi ho) hm) fun σ H Q h => nnotIn_read (k := kx X) (tt_of h)
theorem ss_putN (hu : X.A.units + 9 < cLine) (ho : SE X W o mo) (hi : SE X W ix mk) (he : SE X W e mv) (hs : swapsWith e (some (.Subscript o ix ps)) pos.line X.env = pure false) :
    SS X W (.Assign [.Subscript o ix ps] e pos) (sPutN mo mk mv) :=
  PS.imp (ps_nput hu ho hi he hs) fun D σ H ⟨L, S, g, B, gB, f, p⟩ =>
    ⟨L, S, g, f.loc, f.wf, st_e f p fun d S1 v H1 g1 f1 e1 r p1 => ⟨L, S1, g1, f1.loc, f1.wf, st_e f1 p1 fun od S2 x H2 g2 f2 e2 r2 p2 => ⟨L, S2, g2, f2.loc, f2.wf, st_e f2 p2 fun y S3 w H3 g3 f3 e3 r3 p3 => by
      split at p3
      · rename_i n q hq
        obtain ⟨hn, rfl⟩ := r2.mono e3.toPExt _ _
        split at p3
        · rename_i kvs hS3
          split at p3
          · rename_i hl
            obtain ⟨hl, z2⟩ := hl
            obtain ⟨b, rfl, kq, hd⟩ := kNk_ok hq r3
            obtain ⟨es, ha, ef, nd, hk, rl⟩ := f3.wf.ob n _ hS3
            have hlen : es.length = kvs.length := by
              have := congrArg List.length ef
              simpa using this
            have hv := (nget_of (q := q) ef rl).2 z2
            have pe := f3.wf.pe (u := NDx X.w (g3.ρ n) (es ++ [(q, b, v)])) hS3
            have hnot : q ∉ kvs.map (·.1) := fun hm => by
              obtain ⟨kv, hkv, hkq⟩ := List.mem_map.mp hm
              unfold nGet at z2
              rw [Option.map_eq_none_iff, List.find?_eq_none] at z2
              exact z2 kv hkv (decide_eq_true hkq)
            obtain ⟨f4, pe4⟩ := f3.chgS (o' := .dN (kvs ++ [(q, d)])) (u := NDx X.w (g3.ρ n) (es ++ [(q, b, v)])) hS3 ⟨_, upd_same, by rw [List.map_append, List.map_append, ef]; rfl, by
              rw [List.map_append, List.nodup_append]
              refine ⟨nd, by simp, fun x hx y hy => ?_⟩
              have hy' : y = q := by simpa using hy
              rw [hy']
              exact fun z => hnot (z ▸ hx), fun x hx => by
              rcases List.mem_append.mp hx with hx | hx
              · exact ⟨KIs.at pe.kT _ _ (hk x hx).1, (hk x hx).2⟩
              · have hx' : x = (q, b, v) := by simpa using hx
                rw [hx']
                exact ⟨KIs.at pe.kT _ _ kq, hd⟩, by
              rw [List.map_append, List.map_append]
              exact (rl.mono pe _ _).append (.cons ((r.mono (e2.trans e3).toPExt _ _).mono pe _ _) .nil)⟩
            exact ⟨_, _, rfl, ⟨es, q, b, ha, by rw [ef]; exact nd, hk, rfl, kq, hd, by rw [hlen]; exact hl, hv, rfl⟩, p3 σ _ g3 f4 pe4⟩
          · exact p3.elim
        · exact p3.elim
      · exact p3.elim⟩⟩⟩
end
section
variable {xp : ExP} {P : D → Sto → Prop} {PS : Fl → Ls → Sto → Prop} {L : Ls} {S : Sto} {a b c : EM} {ng : Bool}
theorem r_getN (h : wp (a L S) fun o S1 => wp (b L S1) fun y S2 => ∃ d, nLook S2 o y = some (some d) ∧ P d S2) : wp (eGetN a b L S) P := by
  unfold eGetN
  rw [wp_bind]
  refine h.mono fun o S1 h => ?_
  rw [wp_bind]
  refine h.mono fun y S2 ⟨d, e, k⟩ => ?_
  rw [e]
  exact ⟨k⟩
theorem r_inN (h : wp (a L S) fun y S1 => wp (b L S1) fun o S2 => ∃ r, nLook S2 o y = some r ∧ P (.bl (ng != r.isSome)) S2) : wp (eInN ng a b L S) P := by
  unfold eInN
  rw [wp_bind]
  refine h.mono fun o S1 h => ?_
  rw [wp_bind]
  refine h.mono fun y S2 ⟨d, e, k⟩ => ?_
  rw [e]
  exact ⟨k⟩
theorem q_putN (h : wp (c L S) fun d S1 => wp (a L S1) fun o S2 => wp (b L S2) fun y S3 => ∃ n q kvs, o = .obj n ∧ kNk y = some q ∧ S3[n]? = some (.dN kvs) ∧ kvs.length < sizeLine ∧ nGet kvs q = none ∧ ∀ S', S3.set n (.dN (kvs ++ [(q, d)])) = S' → PS .nx L S') : wps (sPutN a b c L S) PS := by
  unfold sPutN
  rw [wps_st]
  refine h.mono fun d S1 h => ?_
  rw [wps_st]
  refine h.mono fun o S2 h => ?_
  rw [wps_st]
  refine h.mono fun y S3 ⟨n, q, kvs, e, e1, e2, e3, e4, k⟩ => ?_
  subst e
  rw [e1]
  dsimp only
  rw [e2]
  dsimp only
  rw [if_pos ⟨e3, e4⟩]
  exact ⟨k _ rfl⟩
instance : Wp (eGetN a b L S) P (wp (a L S) fun o S1 => wp (b L S1) fun y S2 => ∃ d, nLook S2 o y = some (some d) ∧ P d S2) := ⟨r_getN⟩
instance : Wp (eInN ng a b L S) P (wp (a L S) fun y S1 => wp (b L S1) fun o S2 => ∃ r, nLook S2 o y = some r ∧ P (.bl (ng != r.isSome)) S2) := ⟨r_inN⟩
instance : Ws (sPutN a b c L S) PS (wp (c L S) fun d S1 => wp (a L S1) fun o S2 => wp (b L S2) fun y S3 => ∃ n q kvs, o = .obj n ∧ kNk y = some q ∧ S3[n]? = some (.dN kvs) ∧ kvs.length < sizeLine ∧ nGet kvs q = none ∧ ∀ S', S3.set n (.dN (kvs ++ [(q, d)])) = S' → PS .nx L S') := ⟨q_putN⟩
end
end Rf
set_option Elab.async false
set_option linter.all false
set_option maxRecDepth 100000
set_option maxHeartbeats 1000000
namespace Rf
open PySem L2 TL
def fRng (m : EM) : Ls → Sto → R (List D) := fun L S => (m L S).bind fun d S1 => match d with
  | .int n => if 0 ≤ n ∧ n ≤ 10000 then .ok (rngI 0 n.toNat) S1 else .no
  | _ => .no
def inKs : DctK → Option (List Int)
  | [] => some []
  | (.inl i, _) :: r => (inKs r).map (i :: ·)
  | (.inr _, _) :: _ => none
def fSrtI (mo : EM) : Ls → Sto → R (List D) := fun L S => (mo L S).bind fun o S1 => match o with
  | .obj n => match S1[n]? with
    | some (.dK kvs) => match inKs kvs with
      | some ks => if ks.length < 64 then .ok ((srtI ks).map .int) S1 else .no
      | none => .no
    | _ => .no
  | _ => .no
theorem inKs_map : ∀ {kvs : DctK} {ks : List Int}, inKs kvs = some ks → kvs.map (·.1) = ks.map Sum.inl
  | [], ks, h => by cases h; rfl
  | (.inl s, d) :: r, ks, h => by
    obtain ⟨ks', h', rfl⟩ := Option.map_eq_some_iff.mp h
    rw [List.map_cons, List.map_cons, inKs_map h']
  | (.inr _, _) :: _, _, h => by cases h
theorem sf_srtI {X : Cx} {W : WX} {x : Str} {p pos : Pos} {e : Expr} {m : EM} (hc : X.calm = true) (hg : Gl X x) (hm : X.mg x = none) (hv : bootBuiltins x = some (.builtin "sorted")) (hx : x ≠ "__name__") (hd : (x == ("__debug__" : Str)) = false)
    (he : SE X W e m) (hs : noStar e = true) : SF X W (.Call (.Name x p) [e] [] pos) (fSrtI m) := by
  refine PE.imp (pe_callB (call_sortedDI hc) hg hm hv (pa_cons he pa_nil (star_cons hs)) hx hd (star_cons hs)) fun σ H Q ⟨L, S, g, l, w, q⟩ => ?_
  refine ⟨L, S, g, l, w, Post.bind q fun d S1 v H1 g1 e1 w1 r1 p1 => ?_⟩
  split at p1
  · rename_i n
    obtain ⟨hn, rfl⟩ := r1
    split at p1
    · rename_i kvs z
      obtain ⟨ws, hw, rw⟩ := orK.mp (w1.ob n _ z)
      split at p1
      · rename_i ks hks
        split at p1
        · rename_i hl
          refine ⟨_, ws, ks, rfl, .inl hw, by rw [rw.fst, inKs_map hks], hl, fun ys q yp ysr hq => ?_⟩
          have e : ys = srtI ks := srtI_uniq (yp.trans (srtI_perm ks).symm) ysr (srtI_pw ks)
          subst e
          have r0 : RepL (kx X) H1 g1 ((srtI ks).map .int) ((srtI ks).map V.int) := rep_ints _
          exact p1 _ _ g1 (Ext.new hq) (w1.new hq) ⟨q, rfl, fresh_of e1 hq, own_new w1 r0 hq⟩
        · exact p1.elim
      · exact p1.elim
    · exact p1.elim
  · exact p1.elim
def maxI (a : Int) : List Int → Int
  | [] => a
  | b :: l => maxI (if a < b then b else a) l
theorem maxI_ok : ∀ (l : List Int) (a : Int), maxI a l ∈ a :: l ∧ ∀ x ∈ a :: l, x ≤ maxI a l
  | [], a => ⟨List.mem_cons_self, fun x hx => by
    have : x = a := by simpa using hx
    subst this
    exact Int.le_refl _⟩
  | b :: l, a => by
    rw [maxI]
    by_cases q : a < b
    · rw [if_pos q]
      obtain ⟨h1, h2⟩ := maxI_ok l b
      refine ⟨List.mem_cons_of_mem _ h1, fun x hx => ?_⟩
      rcases List.mem_cons.mp hx with rfl | hx
      · have := h2 b List.mem_cons_self; omega
      · exact h2 x hx
    · rw [if_neg q]
      obtain ⟨h1, h2⟩ := maxI_ok l a
      refine ⟨?_, fun x hx => ?_⟩
      · rcases List.mem_cons.mp h1 with e | h1
        · rw [e]; exact List.mem_cons_self
        · exact List.mem_cons_of_mem _ (List.mem_cons_of_mem _ h1)
      · rcases List.mem_cons.mp hx with rfl | hx
        · exact h2 _ List.mem_cons_self
        · rcases List.mem_cons.mp hx with rfl | hx
          · have := h2 a List.mem_cons_self; omega
          · exact h2 x (List.mem_cons_of_mem _ hx)
def bMaxI : List D → Option D
  | [.lst ds] => match isI ds with
    | some (n :: l) => some (.int (maxI n l))
    | _ => none
  | _ => none
theorem bMaxI_ok {X : Cx} (hc : X.calm = true) : CallC X (.builtin "max") bMaxI := by
  intro args res h
  unfold bMaxI at h
  split at h
  · rename_i ds
    split at h
    · rename_i n l hl
      cases h
      intro pins s σ H xs us Q I r ⟨g, S, w, c, q⟩
      obtain ⟨v, t, rfl, ⟨a, vs, rfl, ha, rl⟩, ht⟩ := c
      cases (show t = [] from ht)
      refine cr_max hc pins s σ H _ us Q I r ⟨a, n :: l, rfl, ?_, by simp, fun m h1 h2 => ?_⟩
      · rw [← rep_isI hl rl]
        exact SqL.of ha
      · obtain ⟨m1, m2⟩ := maxI_ok l n
        have e : m = maxI n l := by
          have := h2 _ m1
          have := m2 _ h1
          omega
        subst e
        exact q _ _ g (Ext.refl H g) w rfl
    · cases h
  · cases h
def iRev (m : EM) : Ls → Sto → R Src := fun L S => (m L S).bind fun d S1 => match d with
  | .lst ds => .ok (ds.reverse, none) S1
  | _ => .no
theorem yl_rev {k : Kx} {Rl : Hp → G → Hp → G → Prop} {H : Hp} {g : G} {a : Addr} {vs : List V} {ds : List D} (hR : Rl1 Rl) (hk : ∀ H2 g2, Rl H g H2 g2 → H2 a = some (.lst vs)) (r : RepL k H g ds vs) : Yields k Rl (Itv k.K a vs.length) H g ds.reverse none := fun H2 g2 S2 i rl w _ => by
  have h2 : SqL k.K H2 a vs := SqL.of (hk H2 g2 rl)
  refine ⟨fun e => by show vs.length ≤ i; rw [r.length, ← e, List.length_reverse]; exact Nat.le_refl _, fun d hd => ?_⟩
  have hi : i < ds.length := by
    have := (List.getElem?_eq_some_iff.mp hd).1
    rwa [List.length_reverse] at this
  rw [List.getElem?_reverse hi] at hd
  obtain ⟨v, hv, rv⟩ := r.get hd
  have hl : vs.length = ds.length := r.length
  have hv' : vs[vs.length - 1 - i]? = some v := by rw [hl]; exact hv
  refine ⟨⟨by omega, vs, v, h2, hv'⟩, fun x H3 ⟨e, y⟩ => ?_⟩
  subst e
  have := y vs h2
  rw [hv'] at this
  cases this
  exact ⟨Ext.refl _ _, w, rv.mono (hR _ _ _ _ rl) _ _⟩
theorem si_rev {X : Cx} {W : WX} {Rl : Hp → G → Hp → G → Prop} {P : OpP} {tg e : Expr} {m : EM} {p pos : Pos} (M : Md (kx X) Rl P) (hg : Gl X "reversed") (hm : X.mg "reversed" = none) (h : PE X e (tQ (kx X) W P m)) (hs : noStar e = true) : PI X tg (.Call (.Name "reversed" p) [e] [] pos) (tI (kx X) Rl W (iRev m)) :=
  PI.imp (RT.pi_revA hg hm h (star_cons hs)) fun σ H Q ⟨L, S, g, l, w, p⟩ => ⟨L, S, g, l, w, Post.bind p fun d S1 v H1 g1 e1 w1 r1 p1 => by
    split at p1
    · rename_i ds
      obtain ⟨a, vs, rfl, h0, h1, h2⟩ := M.md (l.ext e1) r1
      exact ⟨a, vs, rfl, .inl ⟨SqL.of h0, Post.ret p1 w1 (yl_rev M.r1 h1 h2)⟩⟩
    · exact p1.elim⟩
section
variable {xp : ExP} {P : D → Sto → Prop} {PL : List D → Sto → Prop} {PI : Src → Sto → Prop} {L : Ls} {S : Sto} {m : EM}
theorem r_fRng (h : wp (m L S) fun d S1 => ∃ n, d = .int n ∧ (0 ≤ n ∧ n ≤ 10000) ∧ PL (rngI 0 n.toNat) S1) : wp (fRng m L S) PL := by
  unfold fRng
  rw [wp_bind]
  refine h.mono fun d S1 ⟨n, e, h1, k⟩ => ?_
  subst e
  dsimp only
  rw [if_pos h1]
  exact ⟨k⟩
theorem r_fSrtI (h : wp (m L S) fun o S1 => ∃ n kvs ks, o = .obj n ∧ S1[n]? = some (.dK kvs) ∧ inKs kvs = some ks ∧ ks.length < 64 ∧ PL ((srtI ks).map .int) S1) : wp (fSrtI m L S) PL := by
  unfold fSrtI
  rw [wp_bind]
  refine h.mono fun o S1 ⟨n, kvs, ks, e, e1, e2, e3, k⟩ => ?_
  subst e
  dsimp only
  rw [e1]
  dsimp only
  rw [e2]
  dsimp only
  rw [if_pos e3]
  exact ⟨k⟩
theorem r_iRev (h : wp (m L S) fun d S1 => ∃ ds, d = .lst ds ∧ PI (ds.reverse, none) S1) : wp (iRev m L S) PI := by
  unfold iRev
  rw [wp_bind]
  refine h.mono fun d S1 ⟨ds, e, k⟩ => ?_
  subst e
  exact ⟨k⟩
instance : Wp (fRng m L S) PL (wp (m L S) fun d S1 => ∃ n, d = .int n ∧ (0 ≤ n ∧ n ≤ 10000) ∧ PL (rngI 0 n.toNat) S1) := ⟨r_fRng⟩
instance : Wp (fSrtI m L S) PL (wp (m L S) fun o S1 => ∃ n kvs ks, o = .obj n ∧ S1[n]? = some (.dK kvs) ∧ inKs kvs = some ks ∧ ks.length < 64 ∧ PL ((srtI ks).map .int) S1) := ⟨r_fSrtI⟩
instance : Wp (iRev m L S) PI (wp (m L S) fun d S1 => ∃ ds, d = .lst ds ∧ PI (ds.reverse, none) S1) := ⟨r_iRev⟩
end
end Rf
set_option Elab.async false
set_option linter.all false
set_option maxRecDepth 100000
set_option maxHeartbeats 1000000
namespace Rf
open PySem L2 TL
structure IniD (P : Program) (w : World) (K : PySem.W.Frag) (mg : Str → Option Value) (base : Heap) (D : Str) (j nd : Nat) (c : Fn) : Prop where
  ex : ∃ (fd : FuncData) (ps : List Str), FnOkG P w K mg base (L2.CX P w) j (He.ma K (He.ga K D) "__init__") fd ps (spC (k0 K mg w) c) ∧ ∀ miss, miss ≤ nd → ∃ (dvs : List V) (ds : List Value), Binds K fd ps ds ∧ Vals dvs ds ∧ DflR (k0 K mg w) (List.replicate miss (.tup [])) dvs
structure MkCD (X : Cx) (c : Str) (F : Fn) (dds : List D) : Prop where
  ex : ∃ (C f : Addr) (fd : FuncData) (ps : List Str) (j : Nat) (dvs : List V) (ds : List Value), X.mg c = some (.ref C) ∧ Mk X.K C f ∧ FnOkG X.prog X.w X.K X.mg X.base (L2.CX X.prog X.w) j f fd ps (spC (k0 X.K X.mg X.w) F) ∧ RoomG (j + 1) X.A ∧ Binds X.K fd ps ds ∧ Vals dvs ds ∧ DflR (k0 X.K X.mg X.w) dds dvs
theorem IniD.mkC {P : Program} {w : World} {K : PySem.W.Frag} {mg : Str → Option Value} {base : Heap} {D c : Str} {i j nd miss : Nat} {F : Fn} {X : Cx} (h : IniD P w K mg base D j nd F) (f : MkF K mg c D) (hm : miss ≤ nd) (hr : RoomG i X.A) (hl : j + 1 ≤ i)
    (h1 : X.prog = P) (h2 : X.w = w) (h3 : X.K = K) (h4 : X.mg = mg) (h5 : X.base = base) : MkCD X c F (List.replicate miss (.tup [])) := by
  subst h1 h2 h3 h4 h5
  obtain ⟨fd, ps, F, hb⟩ := h.ex
  obtain ⟨C, hC, mk⟩ := f
  obtain ⟨dvs, ds, b1, b2, b3⟩ := hb miss hm
  exact ⟨C, _, fd, ps, j, dvs, ds, hC, mk, F, hr.mono hl, b1, b2, b3⟩
def MDefD (K : PySem.W.Frag) (mg : Str → Option Value) (w : World) (D m qual : Str) (st : Stmt) (nd : Nat) : Prop := ∃ (fd : FuncData) (dvs : List V), FunD K m qual (defArgs st) (defBody st) (defScope st) dvs [] (He.ma K (He.ga K D) m) fd ∧ dvs.length = nd ∧ DflR (k0 K mg w) (List.replicate nd (.tup [])) dvs
def eMkD (c : Str) (F : Fn) (dds : List D) (ma : Ls → Sto → R (List D)) : EM := eMk c (fun as S => F (as ++ dds) S) ma
section
variable {X : Cx} {W : WX} {o e : Expr} {m x : Str} {pos apos p : Pos} {es : List Expr} {mo : EM} {ma : Ls → Sto → R (List D)}
theorem run_mkGD {pins : List (Addr × Obj)} {σ : L2.St} {H : Hp} {s : Shared} {Q : VK} {us ds : List Value} {vs dvs : List V} {C f : Addr} {fd : FuncData} {ps : List Str} {j : Nat} {sp : Sp} (M : Mk X.K C f) (F : FnOkG X.prog X.w X.K X.mg X.base (L2.CX X.prog X.w) j f fd ps sp) (hr : RoomG (j + 1) X.A) (hb : Binds X.K fd ps ds) (hd : Vals dvs ds)
    (I : Inv X pins σ H s) (r : Vals vs us) (h : ∀ x dx, H x = none → H dx = none → dx ≠ x → sp (.ref x :: (vs ++ dvs)) (upd (upd H dx (.own x)) x (.ins C dx [])) (fun v H2 => v = .non ∧ Q (.ref x) H2) (fun _ _ _ => False)) :
    wpAny (model X.prog X.w) X.A (call (.ref C) us) (EP X pins σ Q) X.xe s := by
  have hq := h (s.heap.objs.size + 1) s.heap.objs.size (I.hok.fresh (Nat.le_succ _)) (I.hok.fresh (Nat.le_refl _)) (Nat.ne_of_lt (Nat.lt_succ_self _))
  have I2 := Inv.made (C := C) I
  have r2 : Vals (V.ref (s.heap.objs.size + 1) :: vs) (Value.ref (s.heap.objs.size + 1) :: us) := .cons rfl r
  have r3 : Vals (V.ref (s.heap.objs.size + 1) :: (vs ++ dvs)) (Value.ref (s.heap.objs.size + 1) :: (us ++ ds)) := r2.append hd
  have b := hb _ (Value.ref (s.heap.objs.size + 1) :: us) I2.kIn (by show (Value.ref (s.heap.objs.size + 1) :: (us ++ ds)).length = _; rw [← r3.length]; exact F.len _ _ _ _ hq)
  have hr2 : RoomG j (X.A.under (.builtin "type.__call__" ⟨.ref C :: us, []⟩)) := ⟨hr.toRoom.make C us [], by
    have e : (Code.builtin "type.__call__" ⟨.ref C :: us, []⟩).guards = [] := rfl
    show pushGuards (Code.builtin "type.__call__" ⟨.ref C :: us, []⟩).guards (_ : Option (List Code)) = some []
    rw [e]
    exact hr.gd⟩
  refine wpAny_call (make_map (f := f) I.kIn M.makes M.init (beq_iff_eq.mp M.fn) (codeAny_mono (F.run _ X.stack _ _ ⟨Value.ref (s.heap.objs.size + 1) :: us, []⟩ _ _ _ _ hr2 (I2.env0.make C us []) b r3 hq) fun r s' hq' => ?_))
  match r, hq' with
  | .error e, hq' => exact (no_cxF hq').elim
  | .ok (.ret u), hq' =>
    obtain ⟨v, H', I3, rv, ev, q3⟩ := I2.after hq'
    subst ev
    exact ⟨rv, ⟨V.ref (s.heap.objs.size + 1), H', I3, rfl, q3⟩⟩
def tMkGD (C : Addr) (sp : Sp) (dvs : List V) (t : TA) : TE := fun σ H Q => t σ H fun vs H1 => ∀ x dx, H1 x = none → H1 dx = none → dx ≠ x → sp (.ref x :: (vs ++ dvs)) (upd (upd H1 dx (.own x)) x (.ins C dx [])) (fun v H2 => v = .non ∧ Q (.ref x) H2) (fun _ _ _ => False)
theorem pe_mkGD {C f : Addr} {fd : FuncData} {ps : List Str} {j : Nat} {sp : Sp} {t : TA} {c : Str} {dvs : List V} {ds : List Value} (M : Mk X.K C f) (F : FnOkG X.prog X.w X.K X.mg X.base (L2.CX X.prog X.w) j f fd ps sp) (hr : RoomG (j + 1) X.A) (hg : Gl X c) (hm : X.mg c = some (.ref C)) (hb : Binds X.K fd ps ds) (hd : Vals dvs ds)
    (ha : PA X (e :: es) t) (hdb : (c == ("__debug__" : Str)) = false) (he : starEach (e :: es) X.env = (false, eval e X.env) :: starEach es X.env) (hpl : (backTo pos (starEach es X.env)).any (·.1) = false) : PE X (.Call (.Name c p) (e :: es) [] pos) (tMkGD C sp dvs t) :=
  ⟨fun pins s σ H Q I h => wpAny_Call_Name_kw (ld_glob I hg hm (PySem.W.callWith_K (h₀ := X.base) I.ok.mod.kin M.kp (thn (ha.run pos pins s σ H _ I h) fun us s1 ⟨vs, H1, I1, r, q⟩ => ⟨I1.kIn, run_mkGD M F hr hb hd I1 r q⟩) he hpl) hdb)⟩
theorem pe_mkGD0 {C f : Addr} {fd : FuncData} {ps : List Str} {j : Nat} {sp : Sp} {c : Str} {dvs : List V} {ds : List Value} (M : Mk X.K C f) (F : FnOkG X.prog X.w X.K X.mg X.base (L2.CX X.prog X.w) j f fd ps sp) (hr : RoomG (j + 1) X.A) (hg : Gl X c) (hm : X.mg c = some (.ref C)) (hb : Binds X.K fd ps ds) (hd : Vals dvs ds)
    (hdb : (c == ("__debug__" : Str)) = false) : PE X (.Call (.Name c p) [] [] pos) (tMkGD C sp dvs tNil) :=
  ⟨fun pins s σ H Q I h => wpAny_Call_Name_kw (ld_glob I hg hm (PySem.W.callWith_K0 I.kIn M.kp (run_mkGD (us := []) M F hr hb hd I .nil h)) hdb)⟩
theorem spC.dfl {k : Kx} {F : Fn} {dds : List D} {dvs vs : List V} {H : Hp} {Q : VK} {E : XK} (hR : DflR k dds dvs) (h : spC k (fun as S => F (as ++ dds) S) vs H Q E) : spC k F (vs ++ dvs) H Q E := by
  obtain ⟨ds, S, g, r, w, p⟩ := h
  exact ⟨ds ++ dds, S, g, r.append (hR H g), w, p⟩
theorem se_makeD {c : Str} {F : Fn} {dds : List D} (M : MkCD X c F dds) (hg : Gl X c) (ha : SAE X W (e :: es) ma) (hs : (e :: es).all noStar = true) (hdb : (c == ("__debug__" : Str)) = false) : SE X W (.Call (.Name c p) (e :: es) [] pos) (eMkD c F dds ma) := by
  obtain ⟨C, f, fd, ps, j, dvs, ds, hC, mk, F', hr, hb, hd, hR⟩ := M.ex
  have hs' : noStar e = true ∧ es.all noStar = true := by rwa [List.all_cons, Bool.and_eq_true] at hs
  exact PE.imp (pe_mkGD mk F' hr hg hC hb hd ha hdb (star_cons hs'.1) (star_any hs'.2)) fun σ H Q ⟨L, S, g, l, w, q⟩ =>
    ⟨L, S, g, l, w, Post.bind q fun ds S1 vs H1 g1 e1 w1 r1 p1 => fun x dx hx hd hne => spC.dfl (vs := .ref x :: vs) hR (spC.kc (k := kx X) rfl rfl rfl (mk_sp hC w1 r1 p1 hx hd hne))⟩
theorem se_makeD0 {c : Str} {F : Fn} {dds : List D} (M : MkCD X c F dds) (hg : Gl X c) (hdb : (c == ("__debug__" : Str)) = false) : SE X W (.Call (.Name c p) [] [] pos) (eMkD c F dds aNil) := by
  obtain ⟨C, f, fd, ps, j, dvs, ds, hC, mk, F', hr, hb, hd, hR⟩ := M.ex
  exact PE.imp (pe_mkGD0 mk F' hr hg hC hb hd hdb) fun σ H Q ⟨L, S, g, l, w, q⟩ => fun x dx hx hd hne => by
      exact spC.dfl (vs := [.ref x]) hR (spC.kc (k := kx X) rfl rfl rfl (mk_sp (ds := []) (vs := []) hC w rfl q hx hd hne))
end
/-- the getter of the property f of C -/
def prG (K : PySem.W.Frag) (C : Addr) (f : Str) : Addr := match PySem.W.recIn K (He.ma K C f) "property" with
  | some (.ref g :: _) => g
  | _ => 0
def PrpF (K : PySem.W.Frag) (mg : Str → Option Value) (c D f : Str) : Prop := ∃ C p, mg c = some (.ref C) ∧ Cls K C ∧ PropOf K C f p (prG K (He.ga K D) f)
structure PrpIn (P : Program) (w : World) (K : PySem.W.Frag) (mg : Str → Option Value) (base : Heap) (D f : Str) (j : Nat) (c : Fn) : Prop where
  ex : ∃ (fd : FuncData) (ps : List Str), FnOkG P w K mg base (L2.CX P w) j (prG K (He.ga K D) f) fd ps (spC (k0 K mg w) c) ∧ Binds K fd ps []
structure PrpC (X : Cx) (f : Str) (c : Str) (F : Fn) : Prop where
  ex : ∃ (C p g : Addr) (fd : FuncData) (ps : List Str) (j : Nat), X.mg c = some (.ref C) ∧ Cls X.K C ∧ PropOf X.K C f p g ∧ FnOkG X.prog X.w X.K X.mg X.base (L2.CX X.prog X.w) j g fd ps (spC (k0 X.K X.mg X.w) F) ∧ RoomG (j + 1) X.A ∧ Binds X.K fd ps []
theorem PrpIn.at {P : Program} {w : World} {K : PySem.W.Frag} {mg : Str → Option Value} {base : Heap} {D m c : Str} {i j : Nat} {F : Fn} {X : Cx} (h : PrpIn P w K mg base D m j F) (f : PrpF K mg c D m) (hr : RoomG i X.A) (hl : j + 1 ≤ i)
    (h1 : X.prog = P) (h2 : X.w = w) (h3 : X.K = K) (h4 : X.mg = mg) (h5 : X.base = base) : PrpC X m c F := by
  subst h1 h2 h3 h4 h5
  obtain ⟨fd, ps, F, hb⟩ := h.ex
  obtain ⟨C, p, hC, cl, hp⟩ := f
  exact ⟨C, p, _, fd, ps, j, hC, cl, hp, F, hr.mono hl, hb⟩
def PrpT (X : Cx) (m : Str) (ms : List (Str × Fn)) : Prop := ∀ c F, ms.lookup c = some F → PrpC X m c F
theorem prp_nil {X : Cx} {m : Str} : PrpT X m [] := fun _ _ h => by cases h
theorem prp_cons {X : Cx} {m c : Str} {F : Fn} {ms : List (Str × Fn)} (h : PrpC X m c F) (t : PrpT X m ms) : PrpT X m ((c, F) :: ms) := fun c' F' e => by
  rw [List.lookup_cons] at e
  split at e
  · rename_i q
    cases e
    rw [eq_of_beq q]
    exact h
  · exact t _ _ e
def eProp (ms : List (Str × Fn)) (mo : EM) : EM := fun L S => (mo L S).bind fun d S1 => match insOf S1 d with
  | some (c, _, _) => match ms.lookup c with
    | some F => (F [d] S1).nox
    | none => .no
  | none => .no
section
variable {X : Cx} {W : WX} {o : Expr} {m : Str} {pos : Pos} {ms : List (Str × Fn)} {mo : EM}
theorem getpropG_ok {fd : FuncData} {ps : List Str} {sp : Sp} {C p g a dx : Addr} {fs : List (Str × V)} {f : Str} {k : Nat} {pins : List (Addr × Obj)} {σ : L2.St} {H : Hp} {s : Shared} {Q : VK} {b : Bool} {E' : Value → Shared → Prop} (I : Inv X pins σ H s) (ea : H a = some (.ins C dx fs)) (c : Cls X.K C) (hp : PropOf X.K C f p g)
    (F : FnOkG X.prog X.w X.K X.mg X.base (L2.CX X.prog X.w) k g fd ps sp) (hr : RoomG (k + 1) X.A) (hb : Binds X.K fd ps []) (h : sp [.ref a] H Q (fun _ _ _ => False)) :
    wpAny (model X.prog X.w) X.A (getAttr (.ref a) f b) (EP X pins σ Q) E' s := by
  obtain ⟨mA, O, _, _, _, _⟩ := ins_get I.hok ea
  obtain ⟨od, J, _⟩ := O.look
  obtain ⟨rest, hrec⟩ := hp.rec_
  have I1 := I.tok (s.toks + 1)
  have hl : ([Value.ref a] ++ []).length = ps.length := by
    rw [← F.len _ _ _ _ h]
    rfl
  have hc : (PySem.W.clsIn X.K C).isSome = true := by
    obtain ⟨cd, hc, _⟩ := PySem.W.any_some c.hd
    rw [hc]
    rfl
  have hr1 : RoomG k X.A.in1 := ⟨hr.toRoom.in1, hr.gd⟩
  refine PySem.W.get_bind I.kIn J (PySem.W.plainGet_of (c.get f)).1 (PySem.W.findObj_data hc hp.at_ hp.get hp.tak) (PySem.W.plainGet_of (c.get f)).2 (wpAny_call (PySem.W.prop_get (s := { s with toks := s.toks + 1 }) I.kIn hrec ?_))
  refine codeAny_mono (F.run X.A.in1 X.stack { s with toks := s.toks + 1 } H ⟨[.ref a], []⟩ ([Value.ref a] ++ []) [V.ref a] Q (fun _ _ _ => False) hr1 I1.env0.in1 (hb _ [.ref a] I1.kIn hl) (show Vals [V.ref a] [Value.ref a] from .cons rfl .nil) h) fun r s' hq => ?_
  cases r with
  | error er => exact (no_cxF hq).elim
  | ok fl =>
    cases fl with
    | ret u =>
      obtain ⟨v, H', I3, rv, q3⟩ := I1.after hq
      show wpAny _ _ (handedOut u) _ _ _
      rw [PySem.W.handedOut_of (handed_of rv)]
      exact PySem.wpAny_pure ⟨v, H', I3, rv, q3⟩
    | next => exact False.elim hq
    | brk => exact False.elim hq
    | cont => exact False.elim hq
theorem prop_read {σ : L2.St} {H : Hp} {Q : VK} (T : PrpT X m ms) (h : tE (kx X) W (eProp ms mo) σ H Q) :
    tE (kx X) W mo σ H fun x H1 => ∃ a C dx fs p g fd ps j F, x = .ref a ∧ H1 a = some (.ins C dx fs) ∧ Cls X.K C ∧ PropOf X.K C m p g ∧ FnOkG X.prog X.w X.K X.mg X.base (L2.CX X.prog X.w) j g fd ps (spC (k0 X.K X.mg X.w) F) ∧ RoomG (j + 1) X.A ∧ Binds X.K fd ps [] ∧
      spC (k0 X.K X.mg X.w) F [x] H1 Q (fun _ _ _ => False) := by
  obtain ⟨L, S, g, l, w, p⟩ := h
  refine ⟨L, S, g, l, w, Post.bind p fun d S1 v H1 g1 e1 w1 r1 p1 => ?_⟩
  split at p1
  · rename_i c ns ds q
    split at p1
    · rename_i F hF
      obtain ⟨a, C, dx, vs, rfl, hC, ha, rl⟩ := insOf_rep w1 r1 q
      obtain ⟨C', p0, gg, fd, ps, j, hC', cl, hp, F', hr, hb⟩ := (T c F hF).ex
      have hC0 : X.mg c = some (.ref C) := hC
      rw [hC0] at hC'
      cases hC'
      refine ⟨a, C, dx, _, p0, gg, fd, ps, j, F, rfl, ha, cl, hp, F', hr, hb, ?_⟩
      refine spC.kc (k := kx X) rfl rfl rfl ⟨[d], S1, g1, .cons r1 rfl, w1, ?_⟩
      cases z : F [d] S1 with
      | no => rw [z] at p1; exact p1.elim
      | ex y S2 => rw [z] at p1; exact p1.elim
      | ok y S2 => rw [z] at p1; exact p1
    · exact p1.elim
  · exact p1.elim
theorem se_prop (T : PrpT X m ms) (ho : SE X W o mo) (hb : attributeBase o m X.env (eval o X.env) = eval o X.env) : SE X W (.Attribute o m pos) (eProp ms mo) := by
  refine ⟨fun pins s σ H Q I h => ?_⟩
  refine attr_of hb (thn (ho.run pins s σ H _ I (prop_read T h)) fun u s1 ⟨x, H1, I1, rx, a, C, dx, fs, p, g, fd, ps, j, F, ex, ea, c, hp, F', hr, hb', q⟩ => ?_)
  subst ex
  obtain rfl : u = Value.ref a := rx
  exact getpropG_ok I1 ea c hp F' hr hb' q
end
def fnA (K : PySem.W.Frag) (a : Addr) : FnS := match K.lookup a with
  | some ⟨_, _, .func fd, _⟩ => some (fd.name, fd.qualname, fd.params, fd.body, fd.scope, fd.globals, fd.closure.map (·.1), fd.builtins)
  | _ => none
/-- the def of a property's getter -/
def fnP (K : PySem.W.Frag) (d : He.DefD) : FnS := fnA K (prG K (He.ga K d.at_.1) d.name)
def valP (d : He.DefD) : FnS := some (d.name, d.qual, d.params, .stmts d.body, d.scope, mainGlobals, [], builtinsNs)
def fnSP (K : PySem.W.Frag) (d : Bool × He.DefD) : FnS := if d.1 = true then fnP K d.2 else fnS K d.2.at_
def valSP (d : Bool × He.DefD) : FnS := if d.1 = true then valP d.2 else valS d.2
def pokB (K : PySem.W.Frag) (D f qual : Str) : Bool := PySem.W.keepIn K (.ref (prG K (He.ga K D) f)) && (match K.lookup (prG K (He.ga K D) f) with
  | some ⟨_, _, .func fd, _⟩ => PySem.W.codeIn K fd.code qual && (He.dflB K fd.defaults [] && He.kwdB K fd.kwdefaults [])
  | _ => false)
def PDef (K : PySem.W.Frag) (D f qual : Str) (st : Stmt) : Prop := ∃ fd, FunD K f qual (defArgs st) (defBody st) (defScope st) [] [] (prG K (He.ga K D) f) fd
theorem pdef_at {K : PySem.W.Frag} {D f qual : Str} {st : Stmt} (e : fnP K ⟨(D, some f), f, qual, defArgs st, defBody st, defScope st, [], []⟩ = valP ⟨(D, some f), f, qual, defArgs st, defBody st, defScope st, [], []⟩) (c : pokB K D f qual = true) : PDef K D f qual st := by
  unfold pokB at c
  rw [Bool.and_eq_true] at c
  obtain ⟨kp, c2⟩ := c
  unfold fnP fnA at e
  have hfa : prG K (He.ga K ((D, some f) : Str × Option Str).1) f = prG K (He.ga K D) f := rfl
  cases q : K.lookup (prG K (He.ga K D) f) with
  | none => rw [q] at c2; cases c2
  | some o =>
    obtain ⟨oc, od, dt, osl⟩ := o
    rw [q] at c2
    dsimp only at e
    rw [q] at e
    cases dt with
    | func fd =>
      obtain ⟨n1, n2, n3, n4, n5, n6, n7, n8, n9, n10, n11, n12, n13, n14, n15⟩ := fd
      have e2 : (some (n1, n2, n3, n4, n5, n6, n7.map (·.1), n15) : FnS) = (some (f, qual, defArgs st, FuncBody.stmts (defBody st), defScope st, mainGlobals, [], builtinsNs) : FnS) := e
      simp only [Option.some.injEq, Prod.mk.injEq] at e2
      obtain ⟨h1, h2, h3, h4, h5, h6, h7, h8⟩ := e2
      have h7' : n7 = [] := by simpa using h7
      subst h1 h2 h3 h4 h5 h6 h7' h8
      have c3 : (PySem.W.codeIn K n13 n2 && (He.dflB K n8 [] && He.kwdB K n9 [])) = true := c2
      simp only [Bool.and_eq_true] at c3
      exact ⟨_, ⟨oc, od, n8, n9, n10, n11, n12, n13, n14, osl, rfl, q, c3.1, He.dflB_ok c3.2.1, He.kwdB_ok c3.2.2⟩, kp⟩
    | _ => cases c2
/-- what makes f a property of c, got by D's getter -/
def prpB (K : PySem.W.Frag) (c D f : Str) : Bool := decide (PySem.W.findIn K (.ref (He.ga K c)) f = some (some (.ref (He.ma K (He.ga K c) f)))) && (decide (PySem.W.specialIn K (.ref (He.ma K (He.ga K c) f)) "__get__" = some (some (.builtin "property.__get__"))) &&
  (decide (PySem.W.takesIn K (.ref (He.ma K (He.ga K c) f)) = some true) && (match PySem.W.recIn K (He.ma K (He.ga K c) f) "property" with
    | some (.ref g :: _) => decide (g = prG K (He.ga K D) f)
    | _ => false)))
theorem prpF_at {fa : List He.Fa} {fn : List He.DefD} {K : PySem.W.Frag} {h : Heap} {mg : Str → Option Value} {c D f : Str} (X : K.In h) (G : h.Ns mainGlobals mg) (q : He.SaysD fa fn K) (h1 : He.Fa.glo c ∈ fa) (h2 : He.Fa.cls c ∈ fa) (b : prpB K c D f = true) : PrpF K mg c D f := by
  unfold prpB at b
  simp only [Bool.and_eq_true, decide_eq_true_eq] at b
  obtain ⟨b1, b2, b3, b4⟩ := b
  split at b4
  · rename_i g rest hr
    have hg := of_decide_eq_true b4
    subst hg
    exact ⟨_, _, He.glo_ok X G (q.facts h1), He.cls_ok (q.facts h2), b1, b2, b3, rest, hr⟩
  · cases b4
def hookP (n : Nat) (fa : List He.Fa) (fn : List He.DefD) (fs : List (Bool × He.DefD)) (ts : List He.Tab) (ck : PySem.W.Frag → Bool) : PySem.W.Hook where
  α := He.AlT × Bool × List FnS
  obs := fun s => (He.obsT fa fn ts (frS n s.heap.get?), ck (frS n s.heap.get?), fs.map fun d => fnSP (frS n s.heap.get?) d)
  val := fun w => (He.valT fn ts w, true, fs.map valSP)
  says := fun w h => ∃ K : PySem.W.Frag, K.In h ∧ He.SaysT fa fn ts w K ∧ ck K = true ∧ (fs.map fun d => fnSP K d) = fs.map valSP
  of := fun w s e => ⟨frS n s.heap.get?, He.frG_in, congrArg (fun z : He.AlT × Bool × List FnS => z.1) e, congrArg (fun z : He.AlT × Bool × List FnS => z.2.1) e, congrArg (fun z : He.AlT × Bool × List FnS => z.2.2) e⟩
  keeps := fun _ _ _ ⟨K, hK, c⟩ k => ⟨K, PySem.W.Frag.In.keeps hK k, c⟩
def obP (n : Nat) (fa : List He.Fa) (fn : List He.DefD) (fs : List (Bool × He.DefD)) (ts : List He.Tab) (ck : PySem.W.Frag → Bool) (g : Addr → Option Obj) : He.AlT × Bool × List FnS := (He.obsT fa fn ts (frS n g), ck (frS n g), fs.map fun d => fnSP (frS n g) d)
theorem obP_eq {n : Nat} {fa : List He.Fa} {fn : List He.DefD} {fs : List (Bool × He.DefD)} {ts : List He.Tab} {ck : PySem.W.Frag → Bool} {g : Addr → Option Obj} {s : Shared} (h : ∀ a, g a = s.heap.get? a) : obP n fa fn fs ts ck g = (hookP n fa fn fs ts ck).obs s := by
  have e : g = s.heap.get? := funext h
  rw [e] <;> rfl
theorem says_p {fs : List (Bool × He.DefD)} {K : PySem.W.Frag} (c : (fs.map fun d => fnSP K d) = fs.map valSP) {d : Bool × He.DefD} (h : d ∈ fs) : fnSP K d = valSP d := by
  induction fs with
  | nil => cases h
  | cons x fs ih =>
    rw [List.map_cons, List.map_cons] at c
    obtain ⟨c1, c2⟩ := List.cons.inj c
    rcases List.mem_cons.mp h with rfl | h
    · exact c1
    · exact ih c2 h
section
variable {xp : ExP} {P : D → Sto → Prop} {L : Ls} {S : Sto} {m : EM} {ms : List (Str × Fn)}
theorem r_prop (h : wp (m L S) fun d S1 => ∃ c ns ds, insOf S1 d = some (c, ns, ds) ∧ ∃ F, ms.lookup c = some F ∧ @wp noXP _ (F [d] S1) P) : wp (eProp ms m L S) P := by
  unfold eProp
  rw [wp_bind]
  refine h.mono fun d S1 ⟨c, ns, ds, e1, F, e2, k⟩ => ?_
  rw [e1]
  dsimp only
  rw [e2]
  dsimp only
  cases q : F [d] S1 with
  | no => rw [q] at k; exact k.out.elim
  | ex x S2 => rw [q] at k; exact k.out.elim
  | ok y S2 => rw [q] at k; exact ⟨k.out⟩
instance : Wp (eProp ms m L S) P (wp (m L S) fun d S1 => ∃ c ns ds, insOf S1 d = some (c, ns, ds) ∧ ∃ F, ms.lookup c = some F ∧ @wp noXP _ (F [d] S1) P) := ⟨r_prop⟩
end
end Rf
set_option Elab.async false
set_option linter.all false
set_option maxRecDepth 100000
set_option maxHeartbeats 0
namespace Rf
open PySem L2 TL
def fMul (ma mb : EM) : Ls → Sto → R (List D) := fun L S => (ma L S).bind fun d S1 => (mb L S1).bind fun e S2 => match deref S2 d, e with
  | .lst a, .int b => if -(2 ^ 63) ≤ b ∧ b < 2 ^ 63 ∧ a.length * b.toNat ≤ sizeLine then .ok (List.replicate b.toNat a).flatten S2 else .no
  | _, _ => .no
theorem r_fMul {xp : ExP} {ma mb : EM} {L : Ls} {S : Sto} {PL : List D → Sto → Prop} (h : wp (ma L S) fun d S1 => wp (mb L S1) fun e S2 => ∃ a b, deref S2 d = .lst a ∧ e = .int b ∧ (-(2 ^ 63) ≤ b ∧ b < 2 ^ 63 ∧ a.length * b.toNat ≤ sizeLine) ∧ PL (List.replicate b.toNat a).flatten S2) : wp (fMul ma mb L S) PL := by
  unfold fMul
  rw [wp_bind]
  refine h.mono fun d S1 k => ?_
  rw [wp_bind]
  refine k.mono fun e S2 ⟨a, b, h1, h2, h3, h4⟩ => ?_
  subst h2
  rw [h1]
  dsimp only
  rw [if_pos h3]
  exact ⟨h4⟩
instance {xp : ExP} {ma mb : EM} {L : Ls} {S : Sto} {PL : List D → Sto → Prop} : Wp (fMul ma mb L S) PL (wp (ma L S) fun d S1 => wp (mb L S1) fun e S2 => ∃ a b, deref S2 d = .lst a ∧ e = .int b ∧ (-(2 ^ 63) ≤ b ∧ b < 2 ^ 63 ∧ a.length * b.toNat ≤ sizeLine) ∧ PL (List.replicate b.toNat a).flatten S2) := ⟨r_fMul⟩
end Rf
set_option Elab.async false
set_option linter.all false
set_option maxRecDepth 100000
set_option maxHeartbeats 1000000
namespace Rf
open PySem L2 TL
variable {X : Cx}
def bReprI : List D → Option D
  | [.int i] => if i.natAbs.log2 < 1920 then some (.str (intS i)) else none
  | ds => bRepr ds
theorem bReprI_ok (hu : X.A.units + 60 < cLine) (hg : X.A.guards = some []) : CallC X (.builtin "repr") bReprI := by
  intro ds res h
  unfold bReprI at h
  split at h
  · split at h
    · rename_i hz
      cases h
      rintro pins s σ H xs us Q I r ⟨g, S, w, c, q⟩
      obtain ⟨v, rfl, cv⟩ := c1 c
      cases cv
      exact SkE.call_repr_int pins s σ H _ us Q I r ⟨_, rfl, hz, scalar_fin q w (congrArg V.str (toString_intS _))⟩
    · cases h
  · exact bRepr_ok hu hg _ _ h
theorem x_reprI {i : Int} (h : i.natAbs.log2 < 1920) : bReprI [.int i] = some (.str (intS i)) := if_pos h
end Rf
set_option Elab.async false
set_option linter.all false
set_option maxRecDepth 100000
set_option maxHeartbeats 0
namespace Rf
open PySem PySem.Spec PyProof.Rows L2 TL
variable {xp : ExP}
noncomputable abbrev c__law_deck : Fn := c_deck
noncomputable abbrev c__law_draw : Fn := c_draw1
noncomputable abbrev c__law_one : Fn := c_one
end Rf
set_option Elab.async false
set_option linter.all false
set_option maxRecDepth 100000
set_option maxHeartbeats 0
namespace Rf
open PySem PySem.Spec PyProof.Rows L2 TL
variable {xp : ExP}
noncomputable abbrev m__law_word : SM := sSeq (sIf (tOfE (eBin cGt (eFn c__law_draw (aCons (eVar 0) (aCons (eC (.int 3)) (aNil)))) (eC (.int 0)))) (sSeq (sRet (eFn c__law_one (aCons (eVar 0) (aCons (eFz (fLst (aCons (eC (.str [97])) (aCons (eC (.str [98])) (aCons (eC (.str [48])) (aNil)))))) (aNil))))) (sNil)) (sNil)) (sSeq (sSet 1 (eC (.str [97, 98, 99, 100, 101, 102, 103, 104, 105, 106, 107, 108, 109, 110, 111, 112, 113, 114, 115, 116, 117, 118, 119, 120, 121, 122, 48, 49, 50, 51, 52, 53, 54, 55, 56, 57]))) (sSeq (sSet 2 (eBin oAdd (eC (.int 1)) (eFn c__law_draw (aCons (eVar 0) (aCons (eC (.int 8)) (aNil)))))) (sSeq (sRet (eM1 oJoin (eC (.str [])) (eFz (fLc (iArgs rng1 (aCons (pVar 2) (aNil))) [3] (.nm 3) (tYs) (eBin oIx (pVar 1) (eFn c__law_draw (aCons (eVar 0) (aCons (eC (.int 36)) (aNil))))))))) (sNil))))
noncomputable def c__law_word : Fn := fnSem 4 1 m__law_word
theorem u__law_word {x0 : D} {S : Sto} {P : D → Sto → Prop} (h : wps (m__law_word [.v x0, .un, .un, .un] S) fun fl _ S1 => match fl with
    | .nx => P .non S1
    | .rt d => P d S1
    | _ => False) : wp (c__law_word [x0] S) P := q_fn rfl h
noncomputable abbrev m__law_thing : SM := sSeq (sSet 2 (eFn c__law_draw (aCons (eVar 0) (aCons (eC (.int 10)) (aNil))))) (sSeq (sSet 3 (eFz (fLc (iArgs rng1 (aCons (eCall bLen (aCons (pVar 1) (aNil))) (aNil))) [4] (.nm 4) (tOfE (eBin cNe (eBin oIx (eBin oIx (pVar 1) (pVar 4)) (eC (.int 0))) (eC (.str [114, 111, 119])))) (eVar 4)))) (sSeq (sIf (tOfE (eBin cLt (pVar 2) (eC (.int 2)))) (sSeq (sSet 5 (eFz (fLst (aCons (eC (.int 1)) (aCons (eC (.int 1)) (aCons (eC (.int 0)) (aCons (eNeg (eC (.int 7))) (aCons (eBin oPow (eC (.int 10)) (eC (.int 18))) (aCons (eFn c__law_draw (aCons (eVar 0) (aCons (eBin oPow (eC (.int 10)) (eC (.int 6))) (aNil)))) (aNil)))))))))) (sSeq (sRet (eTup (aCons (eC (.str [110, 117, 109, 98, 101, 114])) (aCons (eFn c__law_one (aCons (eVar 0) (aCons (eVar 5) (aNil)))) (aNil))))) (sNil))) (sNil)) (sSeq (sIf (tOfE (eBin cLt (pVar 2) (eC (.int 4)))) (sSeq (sRet (eTup (aCons (eC (.str [111, 100, 100])) (aNil)))) (sNil)) (sNil)) (sSeq (sIf (tOfE (eBin cEq (pVar 2) (eC (.int 4)))) (sSeq (sRet (eTup (aCons (eC (.str [119, 111, 114, 100])) (aCons (eFn c__law_word (aCons (eVar 0) (aNil))) (aNil))))) (sNil)) (sNil)) (sSeq (sIf (tOfE (eBin cEq (pVar 2) (eC (.int 5)))) (sSeq (sRet (eTup (aCons (eC (.str [114, 111, 119])) (aNil)))) (sNil)) (sNil)) (sSeq (sIf (tOfE (eBin cEq (pVar 3) (eFz (fLst (aNil))))) (sSeq (sRet (eTup (aCons (eC (.str [116, 117, 112, 108, 101])) (aCons (eTup (aNil)) (aNil))))) (sNil)) (sNil)) (sSeq (sSet 6 (eFn c__law_one (aCons (eVar 0) (aCons (eFz (fLst (aCons (eC (.int 1)) (aCons (eC (.int 1)) (aCons (eC (.int 2)) (aCons (eC (.int 2)) (aCons (eC (.int 3)) (aCons (eC (.int 0)) (aNil))))))))) (aNil))))) (sSeq (sRet (eTup (aCons (eC (.str [116, 117, 112, 108, 101])) (aCons (eCall bTuple (aCons (eFz (fLc (iArgs rng1 (aCons (pVar 6) (aNil))) [4] (.nm 4) (tYs) (eFn c__law_one (aCons (eVar 0) (aCons (eVar 3) (aNil)))))) (aNil))) (aNil))))) (sNil)))))))))
noncomputable def c__law_thing : Fn := fnSem 7 2 m__law_thing
theorem u__law_thing {x0 x1 : D} {S : Sto} {P : D → Sto → Prop} (h : wps (m__law_thing [.v x0, .v x1, .un, .un, .un, .un, .un] S) fun fl _ S1 => match fl with
    | .nx => P .non S1
    | .rt d => P d S1
    | _ => False) : wp (c__law_thing [x0, x1] S) P := q_fn rfl h
noncomputable abbrev m__law_things : SM := sSeq (sSet 2 (eNw (fLst (aNil)))) (sSeq (sFor (iArgs rng1 (aCons (eVar 1) (aNil))) (.nm 3) (sSeq (sAppO (eVar 2) (eFn c__law_thing (aCons (eVar 0) (aCons (eVar 2) (aNil))))) (sNil))) (sSeq (sRet (eCall bTuple (aCons (pVar 2) (aNil)))) (sNil)))
noncomputable def c__law_things : Fn := fnSem 4 2 m__law_things
theorem u__law_things {x0 x1 : D} {S : Sto} {P : D → Sto → Prop} (h : wps (m__law_things [.v x0, .v x1, .un, .un] S) fun fl _ S1 => match fl with
    | .nx => P .non S1
    | .rt d => P d S1
    | _ => False) : wp (c__law_things [x0, x1] S) P := q_fn rfl h
noncomputable abbrev m_Sameness_add : SM := sSeq (sAppO (eFl ["Sameness"] "roots" (eVar 0)) (eCall bLen (aCons (eFl ["Sameness"] "listed" (eVar 0)) (aNil)))) (sSeq (sAppO (eFl ["Sameness"] "listed" (eVar 0)) (eVar 1)) (sSeq (sRet (eBin oSub (eCall bLen (aCons (eFl ["Sameness"] "listed" (eVar 0)) (aNil))) (eC (.int 1)))) (sNil)))
noncomputable def c_Sameness_add : Fn := fnSem 2 2 m_Sameness_add
theorem u_Sameness_add {x0 x1 : D} {S : Sto} {P : D → Sto → Prop} (h : wps (m_Sameness_add [.v x0, .v x1] S) fun fl _ S1 => match fl with
    | .nx => P .non S1
    | .rt d => P d S1
    | _ => False) : wp (c_Sameness_add [x0, x1] S) P := q_fn rfl h
noncomputable abbrev m_Sameness_root_of : SM := sSeq (sWhl (tOfE (eBin cNe (eBin oIx (eFl ["Sameness"] "roots" (eVar 0)) (pVar 1)) (pVar 1))) (sSeq (sSet 1 (eBin oIx (eFl ["Sameness"] "roots" (eVar 0)) (pVar 1))) (sNil))) (sSeq (sRet (eVar 1)) (sNil))
noncomputable def c_Sameness_root_of : Fn := fnSem 2 2 m_Sameness_root_of
theorem u_Sameness_root_of {x0 x1 : D} {S : Sto} {P : D → Sto → Prop} (h : wps (m_Sameness_root_of [.v x0, .v x1] S) fun fl _ S1 => match fl with
    | .nx => P .non S1
    | .rt d => P d S1
    | _ => False) : wp (c_Sameness_root_of [x0, x1] S) P := q_fn rfl h
noncomputable abbrev m_Sameness_is_same : SM := sSeq (sRet (eBin cEq (eMt "root_of" [("Sameness", c_Sameness_root_of)] (eVar 0) (aCons (eVar 1) (aNil))) (eMt "root_of" [("Sameness", c_Sameness_root_of)] (eVar 0) (aCons (eVar 2) (aNil))))) (sNil)
noncomputable def c_Sameness_is_same : Fn := fnSem 3 3 m_Sameness_is_same
theorem u_Sameness_is_same {x0 x1 x2 : D} {S : Sto} {P : D → Sto → Prop} (h : wps (m_Sameness_is_same [.v x0, .v x1, .v x2] S) fun fl _ S1 => match fl with
    | .nx => P .non S1
    | .rt d => P d S1
    | _ => False) : wp (c_Sameness_is_same [x0, x1, x2] S) P := q_fn rfl h
noncomputable abbrev m_are_unlike : SM := sSeq (sPar2 3 4 (aCons (eBin oIx (pVar 0) (pVar 1)) (aCons (eBin oIx (pVar 0) (pVar 2)) (aNil)))) (sSeq (sIf (tOfE (eBin cEq (pVar 1) (pVar 2))) (sSeq (sRet (eC (.bl false))) (sNil)) (sNil)) (sSeq (sIf (tOo (tOfE (eBin cNe (eBin oIx (pVar 3) (eC (.int 0))) (eBin oIx (pVar 4) (eC (.int 0))))) (tOfE (eBin cEq (eBin oIx (pVar 3) (eC (.int 0))) (eC (.str [114, 111, 119]))))) (sSeq (sRet (eC (.bl true))) (sNil)) (sNil)) (sSeq (sIf (tOfE (eBin cEq (eBin oIx (pVar 3) (eC (.int 0))) (eC (.str [116, 117, 112, 108, 101])))) (sSeq (sRet (eBin cNe (eCall bLen (aCons (eBin oIx (pVar 3) (eC (.int 1))) (aNil))) (eCall bLen (aCons (eBin oIx (pVar 4) (eC (.int 1))) (aNil))))) (sNil)) (sNil)) (sSeq (sRet (eBin cNe (pVar 3) (pVar 4))) (sNil)))))
noncomputable def c_are_unlike : Fn := fnSem 5 3 m_are_unlike
theorem u_are_unlike {x0 x1 x2 : D} {S : Sto} {P : D → Sto → Prop} (h : wps (m_are_unlike [.v x0, .v x1, .v x2, .un, .un] S) fun fl _ S1 => match fl with
    | .nx => P .non S1
    | .rt d => P d S1
    | _ => False) : wp (c_are_unlike [x0, x1, x2] S) P := q_fn rfl h
noncomputable abbrev m_Sameness_unite : SM := sSeq (sOwn 4 (fLst (aCons (eTup (aCons (eVar 1) (aCons (eVar 2) (aCons (eVar 3) (aNil))))) (aNil)))) (sSeq (sSet 5 (eC (.int 0))) (sSeq (sWhl (tOfE (eBin cLt (pVar 5) (eCall bLen (aCons (pVar 4) (aNil))))) (sSeq (sSet 6 (eBin oIx (pVar 4) (pVar 5))) (sSeq (sAug 5 iAdd (eC (.int 1))) (sSeq (sPar2 7 8 (aCons (eMt "root_of" [("Sameness", c_Sameness_root_of)] (eVar 0) (aCons (eBin oIx (pVar 6) (eC (.int 0))) (aNil))) (aCons (eMt "root_of" [("Sameness", c_Sameness_root_of)] (eVar 0) (aCons (eBin oIx (pVar 6) (eC (.int 1))) (aNil))) (aNil)))) (sSeq (sIf (tOfE (eBin cEq (pVar 7) (pVar 8))) (sSeq (sCnt) (sNil)) (sNil)) (sSeq (sIf (tTr (eFn c_are_unlike (aCons (eFl ["Sameness"] "listed" (eVar 0)) (aCons (eBin oIx (pVar 6) (eC (.int 0))) (aCons (eBin oIx (pVar 6) (eC (.int 1))) (aNil)))))) (sSeq (sRet (eVar 6)) (sNil)) (sNil)) (sSeq (sPutO (eFl ["Sameness"] "roots" (eVar 0)) (eCall bMax2 (aCons (pVar 7) (aCons (pVar 8) (aNil)))) (eCall bMin2 (aCons (pVar 7) (aCons (pVar 8) (aNil))))) (sSeq (sAppO (eFl ["Sameness"] "edges" (eVar 0)) (eVar 6)) (sSeq (sIf (tOfE (eBin cEq (eBin oIx (eBin oIx (eFl ["Sameness"] "listed" (eVar 0)) (eBin oIx (pVar 6) (eC (.int 0)))) (eC (.int 0))) (eC (.str [116, 117, 112, 108, 101])))) (sSeq (sSet 9 (eBin oIx (eBin oIx (eFl ["Sameness"] "listed" (eVar 0)) (eBin oIx (pVar 6) (eC (.int 1)))) (eC (.int 1)))) (sSeq (sFor (iArS enS (aCons (eBin oIx (eBin oIx (eFl ["Sameness"] "listed" (eVar 0)) (eBin oIx (pVar 6) (eC (.int 0)))) (eC (.int 1))) (aNil))) (.tup [.nm 10, .nm 11]) (sSeq (sApp 4 (eTup (aCons (eVar 11) (aCons (eBin oIx (pVar 9) (pVar 10)) (aCons (eTup (aCons (eC (.str [112, 97, 114, 116])) (aCons (eBin oSub (eCall bLen (aCons (eFl ["Sameness"] "edges" (eVar 0)) (aNil))) (eC (.int 1))) (aCons (eVar 10) (aNil))))) (aNil)))))) (sNil))) (sNil))) (sNil)) (sNil)))))))))) (sSeq (sRet (eC .non)) (sNil))))
noncomputable def c_Sameness_unite : Fn := fnSem 12 4 m_Sameness_unite
theorem u_Sameness_unite {x0 x1 x2 x3 : D} {S : Sto} {P : D → Sto → Prop} (h : wps (m_Sameness_unite [.v x0, .v x1, .v x2, .v x3, .un, .un, .un, .un, .un, .un, .un, .un] S) fun fl _ S1 => match fl with
    | .nx => P .non S1
    | .rt d => P d S1
    | _ => False) : wp (c_Sameness_unite [x0, x1, x2, x3] S) P := q_fn rfl h
noncomputable abbrev m_Sameness_broken : SM := sSeq (sFor (iVal (eFl ["Sameness"] "answered" (eVar 0))) (.tup [.nm 1, .nm 2, .nm 3]) (sSeq (sIf (tAn (tOfE (eBin cEq (pVar 3) (eC (.int 0)))) (tOfE (eBin cEq (eMt "root_of" [("Sameness", c_Sameness_root_of)] (eVar 0) (aCons (eVar 1) (aNil))) (eMt "root_of" [("Sameness", c_Sameness_root_of)] (eVar 0) (aCons (eVar 2) (aNil)))))) (sSeq (sRet (eTup (aCons (eVar 1) (aCons (eVar 2) (aNil))))) (sNil)) (sNil)) (sNil))) (sSeq (sRet (eC .non)) (sNil))
noncomputable def c_Sameness_broken : Fn := fnSem 4 1 m_Sameness_broken
theorem u_Sameness_broken {x0 : D} {S : Sto} {P : D → Sto → Prop} (h : wps (m_Sameness_broken [.v x0, .un, .un, .un] S) fun fl _ S1 => match fl with
    | .nx => P .non S1
    | .rt d => P d S1
    | _ => False) : wp (c_Sameness_broken [x0] S) P := q_fn rfl h
noncomputable abbrev m_Sameness_steps_to : SM := sSeq (sOwn 4 (fLst (aCons (eVar 3) (aNil)))) (sSeq (sWhl (tOfE (eBin cEq (eBin oIx (eBin oIx (eBin oIx (pVar 4) (eNeg (eC (.int 1)))) (eC (.int 2))) (eC (.int 0))) (eC (.str [112, 97, 114, 116])))) (sSeq (sApp 4 (eBin oIx (eFl ["Sameness"] "edges" (eVar 0)) (eBin oIx (eBin oIx (eBin oIx (pVar 4) (eNeg (eC (.int 1)))) (eC (.int 2))) (eC (.int 1))))) (sNil))) (sSeq (sFor (iRev (eFz (fCall fList (aCons (pVar 4) (aNil))))) (.tup [.nm 5, .nm 6, .nm 7]) (sSeq (sSet 8 (eTup (aCons (eVar 5) (aCons (eVar 6) (aCons (eVar 7) (aNil)))))) (sSeq (sIf (tOfE (eInN true (eVar 8) (eVar 2))) (sSeq (sSet 9 (eVar 7)) (sSeq (sIf (tOfE (eBin cEq (eBin oIx (pVar 7) (eC (.int 0))) (eC (.str [112, 97, 114, 116])))) (sSeq (sSet 9 (eTup (aCons (eC (.str [112, 97, 114, 116])) (aCons (eGetN (eVar 2) (eBin oIx (eFl ["Sameness"] "edges" (eVar 0)) (eBin oIx (pVar 7) (eC (.int 1))))) (aCons (eBin oIx (pVar 7) (eC (.int 2))) (aNil)))))) (sNil)) (sNil)) (sSeq (sAppO (eVar 1) (eTup (aCons (eVar 5) (aCons (eVar 6) (aCons (eVar 9) (aNil)))))) (sSeq (sPutN (eVar 2) (eVar 8) (eBin oSub (eCall bLen (aCons (pVar 1) (aNil))) (eC (.int 1)))) (sNil))))) (sNil)) (sNil)))) (sSeq (sRet (eGetN (eVar 2) (eVar 3))) (sNil))))
noncomputable def c_Sameness_steps_to : Fn := fnSem 10 4 m_Sameness_steps_to
theorem u_Sameness_steps_to {x0 x1 x2 x3 : D} {S : Sto} {P : D → Sto → Prop} (h : wps (m_Sameness_steps_to [.v x0, .v x1, .v x2, .v x3, .un, .un, .un, .un, .un, .un] S) fun fl _ S1 => match fl with
    | .nx => P .non S1
    | .rt d => P d S1
    | _ => False) : wp (c_Sameness_steps_to [x0, x1, x2, x3] S) P := q_fn rfl h
noncomputable abbrev m_Sameness_way_between : SM := sSeq (sSet 3 (eDisp [(eVar 1, eC .non)])) (sSeq (sOwn 4 (fLst (aCons (eVar 1) (aNil)))) (sSeq (sSet 5 (eC (.int 0))) (sSeq (sFrz 3 (sWhl (tOfE (eInO true (eVar 2) (eVar 3))) (sSeq (sSet 6 (eBin oIx (pVar 4) (pVar 5))) (sSeq (sAug 5 iAdd (eC (.int 1))) (sSeq (sFor (iVal (eFl ["Sameness"] "edges" (eVar 0))) (.nm 7) (sSeq (sFor (iVal (eTup (aCons (eTup (aCons (eBin oIx (pVar 7) (eC (.int 0))) (aCons (eBin oIx (pVar 7) (eC (.int 1))) (aNil)))) (aCons (eTup (aCons (eBin oIx (pVar 7) (eC (.int 1))) (aCons (eBin oIx (pVar 7) (eC (.int 0))) (aNil)))) (aNil))))) (.tup [.nm 8, .nm 9]) (sSeq (sFrz 3 (sIf (tAn (tOfE (eBin cEq (pVar 8) (pVar 6))) (tOfE (eInO true (eVar 9) (eVar 3)))) (sSeq (sFrz 3 (sPutD (eVar 3) (eVar 9) (eTup (aCons (eVar 7) (aCons (eVar 6) (aNil)))))) (sSeq (sApp 4 (eVar 9)) (sNil))) (sNil))) (sNil))) (sNil))) (sNil)))))) (sSeq (sOwn 10 (fLst (aNil))) (sSeq (sSet 6 (eVar 2)) (sSeq (sFrz 3 (sWhl (tOfE (eBin cIsNot (eGetO (eVar 3) (eVar 6)) (eC .non))) (sSeq (sFrz 3 (sApp 10 (eTup (aCons (eBin oIx (eGetO (eVar 3) (eVar 6)) (eC (.int 0))) (aCons (eVar 6) (aNil)))))) (sSeq (sFrz 3 (sSet 6 (eBin oIx (eGetO (eVar 3) (eVar 6)) (eC (.int 1))))) (sNil))))) (sSeq (sRet (eFz (fRev (pVar 10)))) (sNil))))))))
noncomputable def c_Sameness_way_between : Fn := fnSem 11 3 m_Sameness_way_between
theorem u_Sameness_way_between {x0 x1 x2 : D} {S : Sto} {P : D → Sto → Prop} (h : wps (m_Sameness_way_between [.v x0, .v x1, .v x2, .un, .un, .un, .un, .un, .un, .un, .un] S) fun fl _ S1 => match fl with
    | .nx => P .non S1
    | .rt d => P d S1
    | _ => False) : wp (c_Sameness_way_between [x0, x1, x2] S) P := q_fn rfl h
noncomputable abbrev m_Sameness_steps_between : SM := sSeq (sSet 3 (eNw (fLst (aNil)))) (sSeq (sSet 4 (eNwN)) (sSeq (sSet 5 (eC .non)) (sSeq (sFor (iVal (eMt "way_between" [("Sameness", c_Sameness_way_between)] (eVar 0) (aCons (eVar 1) (aCons (eVar 2) (aNil))))) (.tup [.nm 6, .nm 7]) (sSeq (sSet 8 (eMt "steps_to" [("Sameness", c_Sameness_steps_to)] (eVar 0) (aCons (eVar 3) (aCons (eVar 4) (aCons (eVar 6) (aNil)))))) (sSeq (sIf (tOfE (eBin cIsNot (pVar 5) (eC .non))) (sSeq (sAppO (eVar 3) (eTup (aCons (eVar 1) (aCons (eVar 7) (aCons (eTup (aCons (eC (.str [99, 104, 97, 105, 110])) (aCons (eVar 5) (aCons (eVar 8) (aNil))))) (aNil)))))) (sSeq (sSet 8 (eBin oSub (eCall bLen (aCons (pVar 3) (aNil))) (eC (.int 1)))) (sNil))) (sNil)) (sSeq (sSet 5 (eVar 8)) (sNil))))) (sSeq (sIf (tAn (tOfE (eBin cIsNot (pVar 5) (eC .non))) (tOfE (eBin cNe (pVar 5) (eBin oSub (eCall bLen (aCons (pVar 3) (aNil))) (eC (.int 1)))))) (sSeq (sAppO (eVar 3) (eBin oIx (pVar 3) (pVar 5))) (sNil)) (sNil)) (sSeq (sRet (eCall bTuple (aCons (pVar 3) (aNil)))) (sNil))))))
noncomputable def c_Sameness_steps_between : Fn := fnSem 9 3 m_Sameness_steps_between
theorem u_Sameness_steps_between {x0 x1 x2 : D} {S : Sto} {P : D → Sto → Prop} (h : wps (m_Sameness_steps_between [.v x0, .v x1, .v x2, .un, .un, .un, .un, .un, .un] S) fun fl _ S1 => match fl with
    | .nx => P .non S1
    | .rt d => P d S1
    | _ => False) : wp (c_Sameness_steps_between [x0, x1, x2] S) P := q_fn rfl h
noncomputable abbrev m_Sameness___init__ (r_self : Nat → Fn) : SM := sSeq (sFl ["Sameness"] "listed" (eVar 0) (eNw (fLst (aNil)))) (sSeq (sFl ["Sameness"] "answered" (eVar 0) (eNw (fLst (aNil)))) (sSeq (sFl ["Sameness"] "roots" (eVar 0) (eNw (fLst (aNil)))) (sSeq (sFl ["Sameness"] "edges" (eVar 0) (eNw (fLst (aNil)))) (sSeq (sFor (iVal (eVar 1)) (.nm 3) (sSeq (sDrop (eMt "add" [("Sameness", c_Sameness_add)] (eVar 0) (aCons (eVar 3) (aNil)))) (sNil))) (sSeq (sFor (iVal (eVar 2)) (.tup [.nm 4, .nm 5, .nm 6]) (sSeq (sDrop (eMt "tell" [("Sameness", (r_self 3))] (eVar 0) (aCons (eVar 4) (aCons (eVar 5) (aCons (eVar 6) (aNil)))))) (sNil))) (sNil))))))
noncomputable abbrev m_Sameness_twin (r_self : Nat → Fn) : SM := sSeq (sSet 1 (eMkD "Sameness" (r_self 0) (List.replicate 2 (.tup [])) aNil)) (sSeq (sFl ["Sameness"] "listed" (eVar 1) (eNw (fCall fList (aCons (eFl ["Sameness"] "listed" (eVar 0)) (aNil))))) (sSeq (sFl ["Sameness"] "answered" (eVar 1) (eNw (fCall fList (aCons (eFl ["Sameness"] "answered" (eVar 0)) (aNil))))) (sSeq (sFl ["Sameness"] "roots" (eVar 1) (eNw (fCall fList (aCons (eFl ["Sameness"] "roots" (eVar 0)) (aNil))))) (sSeq (sFl ["Sameness"] "edges" (eVar 1) (eNw (fCall fList (aCons (eFl ["Sameness"] "edges" (eVar 0)) (aNil))))) (sSeq (sRet (eVar 1)) (sNil))))))
noncomputable abbrev m_Sameness_trial (r_self : Nat → Fn) : SM := sSeq (sSet 3 (eMt "twin" [("Sameness", (r_self 1))] (eVar 0) aNil)) (sSeq (sSet 4 (eMt "unite" [("Sameness", c_Sameness_unite)] (eVar 3) (aCons (eVar 1) (aCons (eVar 2) (aCons (eTup (aCons (eC (.str [97, 115, 107, 101, 100])) (aCons (eCall bLen (aCons (eFl ["Sameness"] "answered" (eVar 0)) (aNil))) (aNil)))) (aNil)))))) (sSeq (sAppO (eFl ["Sameness"] "answered" (eVar 3)) (eTup (aCons (eVar 1) (aCons (eVar 2) (aCons (eC (.int 1)) (aNil)))))) (sSeq (sIf (tOfE (eBin cIsNot (pVar 4) (eC .non))) (sSeq (sSet 5 (eNw (fLst (aNil)))) (sSeq (sDrop (eMt "steps_to" [("Sameness", c_Sameness_steps_to)] (eVar 3) (aCons (eVar 5) (aCons (eNwN) (aCons (eVar 4) (aNil)))))) (sSeq (sRet (eTup (aCons (eVar 3) (aCons (eCall bTuple (aCons (pVar 5) (aNil))) (aNil))))) (sNil)))) (sNil)) (sSeq (sSet 6 (eMt "broken" [("Sameness", c_Sameness_broken)] (eVar 3) aNil)) (sSeq (sIf (tOfE (eBin cIsNot (pVar 6) (eC .non))) (sSeq (sRet (eTup (aCons (eVar 3) (aCons (eMt "steps_between" [("Sameness", c_Sameness_steps_between)] (eVar 3) (aCons (eBin oIx (pVar 6) (eC (.int 0))) (aCons (eBin oIx (pVar 6) (eC (.int 1))) (aNil)))) (aNil))))) (sNil)) (sNil)) (sSeq (sRet (eTup (aCons (eVar 3) (aCons (eC .non) (aNil))))) (sNil)))))))
noncomputable abbrev m_Sameness_tell (r_self : Nat → Fn) : SM := sSeq (sIf (tOfE (eBin cEq (pVar 3) (eC (.int 0)))) (sSeq (sIf (tTr (eMt "is_same" [("Sameness", c_Sameness_is_same)] (eVar 0) (aCons (eVar 1) (aCons (eVar 2) (aNil))))) (sSeq (sRaise "Clash" "steps" (eMt "steps_between" [("Sameness", c_Sameness_steps_between)] (eVar 0) (aCons (eVar 1) (aCons (eVar 2) (aNil))))) (sNil)) (sNil)) (sSeq (sAppO (eFl ["Sameness"] "answered" (eVar 0)) (eTup (aCons (eVar 1) (aCons (eVar 2) (aCons (eC (.int 0)) (aNil)))))) (sNil))) (sSeq (sTg (.tup [.nm 4, .nm 5]) (eMt "trial" [("Sameness", (r_self 2))] (eVar 0) (aCons (eVar 1) (aCons (eVar 2) (aNil))))) (sSeq (sIf (tOfE (eBin cIsNot (pVar 5) (eC .non))) (sSeq (sRaise "Clash" "steps" (eVar 5)) (sNil)) (sNil)) (sSeq (sFl ["Sameness"] "answered" (eVar 0) (eFl ["Sameness"] "answered" (eVar 4))) (sSeq (sFl ["Sameness"] "roots" (eVar 0) (eFl ["Sameness"] "roots" (eVar 4))) (sSeq (sFl ["Sameness"] "edges" (eVar 0) (eFl ["Sameness"] "edges" (eVar 4))) (sNil))))))) (sSeq (sRet (eCall bLen (aCons (eFl ["Sameness"] "answered" (eVar 0)) (aNil)))) (sNil))
noncomputable def g_Sameness___init__ : Nat → Nat → Fn
  | 0, 0 => fnSem 7 3 sNo
  | 0, 1 => fnSem 2 1 sNo
  | 0, 2 => fnSem 7 3 sNo
  | 0, 3 => fnSem 6 4 sNo
  | n + 1, 0 => fnSem 7 3 (m_Sameness___init__ (g_Sameness___init__ n))
  | n + 1, 1 => fnSem 2 1 (m_Sameness_twin (g_Sameness___init__ n))
  | n + 1, 2 => fnSem 7 3 (m_Sameness_trial (g_Sameness___init__ n))
  | n + 1, 3 => fnSem 6 4 (m_Sameness_tell (g_Sameness___init__ n))
  | _, _ => fun _ _ => .no
noncomputable abbrev c_Sameness___init__ (n : Nat) : Fn := g_Sameness___init__ n 0
noncomputable abbrev c_Sameness_twin (n : Nat) : Fn := g_Sameness___init__ n 1
noncomputable abbrev c_Sameness_trial (n : Nat) : Fn := g_Sameness___init__ n 2
noncomputable abbrev c_Sameness_tell (n : Nat) : Fn := g_Sameness___init__ n 3
theorem u_Sameness___init__ {x0 x1 x2 : D} {n : Nat} {S : Sto} {P : D → Sto → Prop} (h : wps (m_Sameness___init__ (g_Sameness___init__ n) [.v x0, .v x1, .v x2, .un, .un, .un, .un] S) fun fl _ S1 => match fl with
    | .nx => P .non S1
    | .rt d => P d S1
    | _ => False) : wp (g_Sameness___init__ (n + 1) 0 [x0, x1, x2] S) P := q_fn rfl h
theorem u_Sameness_twin {x0 : D} {n : Nat} {S : Sto} {P : D → Sto → Prop} (h : wps (m_Sameness_twin (g_Sameness___init__ n) [.v x0, .un] S) fun fl _ S1 => match fl with
    | .nx => P .non S1
    | .rt d => P d S1
    | _ => False) : wp (g_Sameness___init__ (n + 1) 1 [x0] S) P := q_fn rfl h
theorem u_Sameness_trial {x0 x1 x2 : D} {n : Nat} {S : Sto} {P : D → Sto → Prop} (h : wps (m_Sameness_trial (g_Sameness___init__ n) [.v x0, .v x1, .v x2, .un, .un, .un, .un] S) fun fl _ S1 => match fl with
    | .nx => P .non S1
    | .rt d => P d S1
    | _ => False) : wp (g_Sameness___init__ (n + 1) 2 [x0, x1, x2] S) P := q_fn rfl h
theorem u_Sameness_tell {x0 x1 x2 x3 : D} {n : Nat} {S : Sto} {P : D → Sto → Prop} (h : wps (m_Sameness_tell (g_Sameness___init__ n) [.v x0, .v x1, .v x2, .v x3, .un, .un] S) fun fl _ S1 => match fl with
    | .nx => P .non S1
    | .rt d => P d S1
    | _ => False) : wp (g_Sameness___init__ (n + 1) 3 [x0, x1, x2, x3] S) P := q_fn rfl h
noncomputable abbrev m__law_like : SM := sSeq (sPv3 2 3 4 (.o (fLst (aNil))) (.v (eBin oIx (eBin oIx (pVar 0) (pVar 1)) (eC (.int 0)))) (.v (eBin oIx (eBin oIx (pVar 0) (pVar 1)) (eNeg (eC (.int 1)))))) (sSeq (sFor (iArgs rng1 (aCons (eCall bLen (aCons (pVar 0) (aNil))) (aNil))) (.nm 5) (sSeq (sIf (tAn (tOfE (eBin cEq (eBin oIx (eBin oIx (pVar 0) (pVar 5)) (eC (.int 0))) (pVar 3))) (tOo (tOfE (eBin cNe (pVar 3) (eC (.str [116, 117, 112, 108, 101])))) (tOfE (eBin cEq (eCall bLen (aCons (eBin oIx (eBin oIx (pVar 0) (pVar 5)) (eC (.int 1))) (aNil))) (eCall bLen (aCons (pVar 4) (aNil))))))) (sSeq (sApp 2 (eVar 5)) (sNil)) (sNil)) (sNil))) (sSeq (sFrz 2 (sRet (eVar 2))) (sNil)))
noncomputable def c__law_like : Fn := fnSem 6 2 m__law_like
theorem u__law_like {x0 x1 : D} {S : Sto} {P : D → Sto → Prop} (h : wps (m__law_like [.v x0, .v x1, .un, .un, .un, .un] S) fun fl _ S1 => match fl with
    | .nx => P .non S1
    | .rt d => P d S1
    | _ => False) : wp (c__law_like [x0, x1] S) P := q_fn rfl h
noncomputable abbrev m__law_pair : SM := sSeq (sSet 2 (eFn c__law_draw (aCons (eVar 0) (aCons (eCall bLen (aCons (pVar 1) (aNil))) (aNil))))) (sSeq (sIf (tOfE (eBin cGt (eFn c__law_draw (aCons (eVar 0) (aCons (eC (.int 5)) (aNil)))) (eC (.int 0)))) (sSeq (sRet (eTup (aCons (eVar 2) (aCons (eFn c__law_one (aCons (eVar 0) (aCons (eFn c__law_like (aCons (eVar 1) (aCons (eVar 2) (aNil)))) (aNil)))) (aNil))))) (sNil)) (sNil)) (sSeq (sRet (eTup (aCons (eVar 2) (aCons (eFn c__law_draw (aCons (eVar 0) (aCons (eCall bLen (aCons (pVar 1) (aNil))) (aNil)))) (aNil))))) (sNil)))
noncomputable def c__law_pair : Fn := fnSem 3 2 m__law_pair
theorem u__law_pair {x0 x1 : D} {S : Sto} {P : D → Sto → Prop} (h : wps (m__law_pair [.v x0, .v x1, .un] S) fun fl _ S1 => match fl with
    | .nx => P .non S1
    | .rt d => P d S1
    | _ => False) : wp (c__law_pair [x0, x1] S) P := q_fn rfl h
noncomputable abbrev m__law_can_be_one : SM := sSeq (sPar2 3 4 (aCons (eBin oIx (pVar 0) (pVar 1)) (aCons (eBin oIx (pVar 0) (pVar 2)) (aNil)))) (sSeq (sIf (tOfE (eBin cEq (pVar 1) (pVar 2))) (sSeq (sRet (eC (.bl true))) (sNil)) (sNil)) (sSeq (sIf (tOo (tOfE (eBin cNe (eBin oIx (pVar 3) (eC (.int 0))) (eBin oIx (pVar 4) (eC (.int 0))))) (tOfE (eBin cEq (eBin oIx (pVar 3) (eC (.int 0))) (eC (.str [114, 111, 119]))))) (sSeq (sRet (eC (.bl false))) (sNil)) (sNil)) (sSeq (sIf (tOfE (eBin cEq (eBin oIx (pVar 3) (eC (.int 0))) (eC (.str [116, 117, 112, 108, 101])))) (sSeq (sRet (eBin cEq (eCall bLen (aCons (eBin oIx (pVar 3) (eC (.int 1))) (aNil))) (eCall bLen (aCons (eBin oIx (pVar 4) (eC (.int 1))) (aNil))))) (sNil)) (sNil)) (sSeq (sRet (eBin cEq (pVar 3) (pVar 4))) (sNil)))))
noncomputable def c__law_can_be_one : Fn := fnSem 5 3 m__law_can_be_one
theorem u__law_can_be_one {x0 x1 x2 : D} {S : Sto} {P : D → Sto → Prop} (h : wps (m__law_can_be_one [.v x0, .v x1, .v x2, .un, .un] S) fun fl _ S1 => match fl with
    | .nx => P .non S1
    | .rt d => P d S1
    | _ => False) : wp (c__law_can_be_one [x0, x1, x2] S) P := q_fn rfl h
noncomputable abbrev m__law_about : SM := sSeq (sRet (eOo (eAn (eBin cEq (eBin oIx (pVar 0) (eC (.int 0))) (pVar 1)) (eBin cEq (eBin oIx (pVar 0) (eC (.int 1))) (pVar 2))) (eAn (eBin cEq (eBin oIx (pVar 0) (eC (.int 0))) (pVar 2)) (eBin cEq (eBin oIx (pVar 0) (eC (.int 1))) (pVar 1))))) (sNil)
noncomputable def c__law_about : Fn := fnSem 3 3 m__law_about
theorem u__law_about {x0 x1 x2 : D} {S : Sto} {P : D → Sto → Prop} (h : wps (m__law_about [.v x0, .v x1, .v x2] S) fun fl _ S1 => match fl with
    | .nx => P .non S1
    | .rt d => P d S1
    | _ => False) : wp (c__law_about [x0, x1, x2] S) P := q_fn rfl h
noncomputable abbrev m__law_is_number : SM := sSeq (sRet (eAn (eCall bIsI (aCons (pVar 0) (aCons (eC (.ty "int")) (aNil)))) (eAn (eNt (eCall bIsI (aCons (pVar 0) (aCons (eC (.ty "bool")) (aNil))))) (eCh cLe cLt (eC (.int 0)) (pVar 0) (pVar 1))))) (sNil)
noncomputable def c__law_is_number : Fn := fnSem 2 2 m__law_is_number
theorem u__law_is_number {x0 x1 : D} {S : Sto} {P : D → Sto → Prop} (h : wps (m__law_is_number [.v x0, .v x1] S) fun fl _ S1 => match fl with
    | .nx => P .non S1
    | .rt d => P d S1
    | _ => False) : wp (c__law_is_number [x0, x1] S) P := q_fn rfl h
noncomputable abbrev m_Sameness_told : SM := sSeq (sRet (eCall bTuple (aCons (eFl ["Sameness"] "answered" (eVar 0)) (aNil)))) (sNil)
noncomputable def c_Sameness_told : Fn := fnSem 1 1 m_Sameness_told
theorem u_Sameness_told {x0 : D} {S : Sto} {P : D → Sto → Prop} (h : wps (m_Sameness_told [.v x0] S) fun fl _ S1 => match fl with
    | .nx => P .non S1
    | .rt d => P d S1
    | _ => False) : wp (c_Sameness_told [x0] S) P := q_fn rfl h
end Rf
set_option Elab.async false
set_option linter.all false
set_option maxRecDepth 100000
set_option maxHeartbeats 0
namespace Lw
open PySem PySem.Spec PyProof.Rows L2 TL Rf
variable {xp : ExP}
def top (i : Nat) : Stmt := PySem.Challenge.pw_maybesame_k26_whole_same_in_every_divisi.main.body.getD i (.Pass ⟨0, 0, 0, 0⟩)
def is_Clash : IsT := isT [("Clash", true)]
def ki_MaybeError : IsT := isT [("Clash", true)]
def ki_ValueError : IsT := isT [("Clash", true)]
noncomputable abbrev m_Sameness_classes : SM := sSeq (sSet 1 (eNwK)) (sSeq (sFor (iArgs rng1 (aCons (eCall bLen (aCons (eFl ["Sameness"] "listed" (eVar 0)) (aNil))) (aNil))) (.nm 2) (sSeq (sAppO (eSetK (eVar 1) (eMt "root_of" [("Sameness", c_Sameness_root_of)] (eVar 0) (aCons (eVar 2) (aNil))) (eNw (fLst (aNil)))) (eVar 2)) (sNil))) (sSeq (sRet (eCall bTuple (aCons (eFz (fLc (iVal (eFz (fSrtI (eVar 1)))) [3] (.nm 3) (tYs) (eCall bTuple (aCons (eGetO (eVar 1) (eVar 3)) (aNil))))) (aNil)))) (sNil)))
noncomputable def c_Sameness_classes : Fn := fnSem 4 1 m_Sameness_classes
theorem u_Sameness_classes {x0 : D} {S : Sto} {P : D → Sto → Prop} (h : wps (m_Sameness_classes [.v x0, .un, .un, .un] S) fun fl _ S1 => match fl with
    | .nx => P .non S1
    | .rt d => P d S1
    | _ => False) : wp (c_Sameness_classes [x0] S) P := q_fn rfl h
noncomputable abbrev m__law_classes : SM := sSeq (sOwn 2 (fLst (aNil))) (sSeq (sFor (iArgs rng1 (aCons (eVar 1) (aNil))) (.nm 3) (sSeq (sSet 4 (eFz (fLc (iArgs rng1 (aCons (pVar 1) (aNil))) [5] (.nm 5) (tTr (eCall bAll (aCons (eFz (fLc (iVal (pVar 0)) [6] (.nm 6) (tYs) (eBin cEq (eBin oIx (pVar 6) (pVar 3)) (eBin oIx (pVar 6) (pVar 5))))) (aNil)))) (eVar 5)))) (sSeq (sIf (tOfE (eBin cEq (eBin oIx (pVar 4) (eC (.int 0))) (pVar 3))) (sSeq (sApp 2 (eCall bTuple (aCons (pVar 4) (aNil)))) (sNil)) (sNil)) (sNil)))) (sSeq (sRet (eCall bTuple (aCons (pVar 2) (aNil)))) (sNil)))
noncomputable def c__law_classes : Fn := fnSem 7 2 m__law_classes
theorem u__law_classes {x0 x1 : D} {S : Sto} {P : D → Sto → Prop} (h : wps (m__law_classes [.v x0, .v x1, .un, .un, .un, .un, .un] S) fun fl _ S1 => match fl with
    | .nx => P .non S1
    | .rt d => P d S1
    | _ => False) : wp (c__law_classes [x0, x1] S) P := q_fn rfl h
noncomputable abbrev m__law_is_bool : SM := sSeq (sRet (eAn (eCall bIsI (aCons (pVar 0) (aCons (eC (.ty "bool")) (aNil)))) (eBin cEq (pVar 0) (pVar 1)))) (sNil)
noncomputable def c__law_is_bool : Fn := fnSem 2 2 m__law_is_bool
theorem u__law_is_bool {x0 x1 : D} {S : Sto} {P : D → Sto → Prop} (h : wps (m__law_is_bool [.v x0, .v x1] S) fun fl _ S1 => match fl with
    | .nx => P .non S1
    | .rt d => P d S1
    | _ => False) : wp (c__law_is_bool [x0, x1] S) P := q_fn rfl h
noncomputable abbrev m_Sameness_may_be_same : SM := sSeq (sRet (eBin cIs (eBin oIx (eMt "trial" [("Sameness", (c_Sameness_trial 10))] (eVar 0) (aCons (eVar 1) (aCons (eVar 2) (aNil)))) (eC (.int 1))) (eC .non))) (sNil)
noncomputable def c_Sameness_may_be_same : Fn := fnSem 3 3 m_Sameness_may_be_same
theorem u_Sameness_may_be_same {x0 x1 x2 : D} {S : Sto} {P : D → Sto → Prop} (h : wps (m_Sameness_may_be_same [.v x0, .v x1, .v x2] S) fun fl _ S1 => match fl with
    | .nx => P .non S1
    | .rt d => P d S1
    | _ => False) : wp (c_Sameness_may_be_same [x0, x1, x2] S) P := q_fn rfl h
noncomputable abbrev m__law_state_right : SM := sSeq (sFor (iArgs rng1 (aCons (eVar 2) (aNil))) (.nm 3) (sSeq (sFor (iArgs rng1 (aCons (eBin oAdd (pVar 3) (eC (.int 1))) (aNil))) (.nm 4) (sSeq (sSet 5 (eFz (fLc (iVal (pVar 1)) [6] (.nm 6) (tYs) (eBin cEq (eBin oIx (pVar 6) (pVar 3)) (eBin oIx (pVar 6) (pVar 4)))))) (sSeq (sIf (tNt (tTr (eFn c__law_is_bool (aCons (eMt "is_same" [("Sameness", c_Sameness_is_same)] (eVar 0) (aCons (eVar 3) (aCons (eVar 4) (aNil)))) (aCons (eCall bAll (aCons (pVar 5) (aNil))) (aNil)))))) (sSeq (sRet (eC (.bl false))) (sNil)) (sNil)) (sSeq (sIf (tNt (tTr (eFn c__law_is_bool (aCons (eMt "may_be_same" [("Sameness", c_Sameness_may_be_same)] (eVar 0) (aCons (eVar 4) (aCons (eVar 3) (aNil)))) (aCons (eCall bAny (aCons (pVar 5) (aNil))) (aNil)))))) (sSeq (sRet (eC (.bl false))) (sNil)) (sNil)) (sNil))))) (sNil))) (sSeq (sRet (eBin cEq (eCall bRepr (aCons (eMt "classes" [("Sameness", c_Sameness_classes)] (eVar 0) aNil) (aNil))) (eCall bRepr (aCons (eFn c__law_classes (aCons (eVar 1) (aCons (eVar 2) (aNil)))) (aNil))))) (sNil))
noncomputable def c__law_state_right : Fn := fnSem 7 3 m__law_state_right
theorem u__law_state_right {x0 x1 x2 : D} {S : Sto} {P : D → Sto → Prop} (h : wps (m__law_state_right [.v x0, .v x1, .v x2, .un, .un, .un, .un] S) fun fl _ S1 => match fl with
    | .nx => P .non S1
    | .rt d => P d S1
    | _ => False) : wp (c__law_state_right [x0, x1, x2] S) P := q_fn rfl h
noncomputable abbrev m__law_divisions : SM := sSeq (sSet 1 (eFz (fLst (aCons (eFz (fLst (aNil))) (aNil))))) (sSeq (sFor (iArgs rng1 (aCons (eVar 0) (aNil))) (.nm 2) (sSeq (sOwn 3 (fLst (aNil))) (sSeq (sFor (iVal (eVar 1)) (.nm 4) (sSeq (sExt 3 (eFz (fLc (iArgs rng1 (aCons (eBin oAdd (eCall bMaxI (aCons (eBin oAdd (pVar 4) (eFz (fLst (aCons (eNeg (eC (.int 1))) (aNil))))) (aNil))) (eC (.int 2))) (aNil))) [5] (.nm 5) (tYs) (eBin oAdd (pVar 4) (eFz (fLst (aCons (eVar 5) (aNil)))))))) (sNil))) (sSeq (sFrz 3 (sSet 1 (eVar 3))) (sNil))))) (sSeq (sRet (eVar 1)) (sNil)))
noncomputable def c__law_divisions : Fn := fnSem 6 1 m__law_divisions
theorem u__law_divisions {x0 : D} {S : Sto} {P : D → Sto → Prop} (h : wps (m__law_divisions [.v x0, .un, .un, .un, .un, .un] S) fun fl _ S1 => match fl with
    | .nx => P .non S1
    | .rt d => P d S1
    | _ => False) : wp (c__law_divisions [x0] S) P := q_fn rfl h
noncomputable abbrev m__law_possible : SM := sSeq (sFor (iArgs rng1 (aCons (eCall bLen (aCons (pVar 0) (aNil))) (aNil))) (.nm 2) (sSeq (sFor (iArgs rng1 (aCons (eVar 2) (aNil))) (.nm 3) (sSeq (sIf (tOfE (eBin cEq (eBin oIx (pVar 1) (pVar 2)) (eBin oIx (pVar 1) (pVar 3)))) (sSeq (sIf (tNt (tTr (eFn c__law_can_be_one (aCons (eVar 0) (aCons (eVar 2) (aCons (eVar 3) (aNil))))))) (sSeq (sRet (eC (.bl false))) (sNil)) (sNil)) (sSeq (sIf (tOfE (eBin cEq (eBin oIx (eBin oIx (pVar 0) (pVar 2)) (eC (.int 0))) (eC (.str [116, 117, 112, 108, 101])))) (sSeq (sSet 4 (eFz (fLc (iArS zipS (aCons (eBin oIx (eBin oIx (pVar 0) (pVar 2)) (eC (.int 1))) (aCons (eBin oIx (eBin oIx (pVar 0) (pVar 3)) (eC (.int 1))) (aNil)))) [5, 6] (.tup [.nm 5, .nm 6]) (tYs) (eTup (aCons (eVar 5) (aCons (eVar 6) (aNil))))))) (sSeq (sIf (tNt (tTr (eCall bAll (aCons (eFz (fLc (iVal (pVar 4)) [5, 6] (.tup [.nm 5, .nm 6]) (tYs) (eBin cEq (eBin oIx (pVar 1) (pVar 5)) (eBin oIx (pVar 1) (pVar 6))))) (aNil))))) (sSeq (sRet (eC (.bl false))) (sNil)) (sNil)) (sNil))) (sNil)) (sNil))) (sNil)) (sNil))) (sNil))) (sSeq (sRet (eC (.bl true))) (sNil))
noncomputable def c__law_possible : Fn := fnSem 7 2 m__law_possible
theorem u__law_possible {x0 x1 : D} {S : Sto} {P : D → Sto → Prop} (h : wps (m__law_possible [.v x0, .v x1, .un, .un, .un, .un, .un] S) fun fl _ S1 => match fl with
    | .nx => P .non S1
    | .rt d => P d S1
    | _ => False) : wp (c__law_possible [x0, x1] S) P := q_fn rfl h
noncomputable abbrev m__law_is_clash : SM := sSeq (sTry is_Clash 2 (sSeq (sDrop (eMt "tell" [("Sameness", (c_Sameness_tell 10))] (eVar 0) (aCons (eBin oIx (pVar 1) (eC (.int 0))) (aCons (eBin oIx (pVar 1) (eC (.int 1))) (aCons (eBin oIx (pVar 1) (eC (.int 2))) (aNil)))))) (sNil)) (sSeq (sRet (eAn (eIs ki_MaybeError 2) (eIs ki_ValueError 2))) (sNil))) (sSeq (sRet (eC (.bl false))) (sNil))
noncomputable def c__law_is_clash : Fn := fnSem 3 2 m__law_is_clash
theorem u__law_is_clash {x0 x1 : D} {S : Sto} {P : D → Sto → Prop} (h : wps (m__law_is_clash [.v x0, .v x1, .un] S) fun fl _ S1 => match fl with
    | .nx => P .non S1
    | .rt d => P d S1
    | _ => False) : wp (c__law_is_clash [x0, x1] S) P := q_fn rfl h
noncomputable abbrev m_law : SM := sSeq (sSet 1 (eFn c__law_deck (aCons (eVar 0) (aNil)))) (sSeq (sFor (iArgs rng1 (aCons (eC (.int 4)) (aNil))) (.nm 2) (sSeq (sSet 3 (eIf (tOfE (eBin cLt (pVar 2) (eC (.int 3)))) (eBin oAdd (eC (.int 2)) (eFn c__law_draw (aCons (eVar 1) (aCons (eC (.int 4)) (aNil))))) (eC (.int 6)))) (sSeq (sSet 4 (eFn c__law_things (aCons (eVar 1) (aCons (eVar 3) (aNil))))) (sSeq (sSet 5 (eFz (fLc (iVal (eFn c__law_divisions (aCons (eVar 3) (aNil)))) [6] (.nm 6) (tTr (eFn c__law_possible (aCons (eVar 4) (aCons (eVar 6) (aNil))))) (eVar 6)))) (sSeq (sPv2 7 8 (.v (eMkD "Sameness" (c_Sameness___init__ 10) (List.replicate 1 (.tup [])) (aCons (eVar 4) (aNil)))) (.o (fLst (aNil)))) (sSeq (sIf (tNt (tTr (eFn c__law_state_right (aCons (eVar 7) (aCons (eVar 5) (aCons (eVar 3) (aNil))))))) (sSeq (sRet (eC (.bl false))) (sNil)) (sNil)) (sSeq (sFor (iArgs rng1 (aCons (eFn c__law_draw (aCons (eVar 1) (aCons (eC (.int 7)) (aNil)))) (aNil))) (.nm 9) (sSeq (sTg (.tup [.nm 10, .nm 11]) (eFn c__law_pair (aCons (eVar 1) (aCons (eVar 4) (aNil))))) (sSeq (sSet 12 (eCall bInt (aCons (eBin cGt (eFn c__law_draw (aCons (eVar 1) (aCons (eC (.int 3)) (aNil)))) (eC (.int 0))) (aNil)))) (sSeq (sSet 13 (eFz (fLc (iVal (pVar 5)) [6] (.nm 6) (tOfE (eBin cEq (eBin cEq (eBin oIx (pVar 6) (pVar 10)) (eBin oIx (pVar 6) (pVar 11))) (eBin cEq (pVar 12) (eC (.int 1))))) (eVar 6)))) (sSeq (sIf (tOfE (eBin cEq (pVar 13) (eFz (fLst (aNil))))) (sSeq (sIf (tNt (tTr (eFn c__law_is_clash (aCons (eVar 7) (aCons (eTup (aCons (eVar 10) (aCons (eVar 11) (aCons (eVar 12) (aNil))))) (aNil)))))) (sSeq (sRet (eC (.bl false))) (sNil)) (sNil)) (sNil)) (sSeq (sSet 5 (eVar 13)) (sSeq (sApp 8 (eTup (aCons (eVar 10) (aCons (eVar 11) (aCons (eVar 12) (aNil)))))) (sSeq (sIf (tOfE (eBin cNe (eCall bReprI (aCons (eMt "tell" [("Sameness", (c_Sameness_tell 10))] (eVar 7) (aCons (eVar 10) (aCons (eVar 11) (aCons (eVar 12) (aNil))))) (aNil))) (eCall bReprI (aCons (eCall bLen (aCons (pVar 8) (aNil))) (aNil))))) (sSeq (sRet (eC (.bl false))) (sNil)) (sNil)) (sNil))))) (sSeq (sIf (tOo (tNt (tTr (eFn c__law_state_right (aCons (eVar 7) (aCons (eVar 5) (aCons (eVar 3) (aNil))))))) (tOfE (eBin cNe (eCall bReprI (aCons (eProp [("Sameness", c_Sameness_told)] (eVar 7)) (aNil))) (eCall bReprI (aCons (eCall bTuple (aCons (pVar 8) (aNil))) (aNil)))))) (sSeq (sRet (eC (.bl false))) (sNil)) (sNil)) (sNil))))))) (sNil)))))))) (sSeq (sRet (eC (.bl true))) (sNil)))
noncomputable def c_law : Fn := fnSem 14 1 m_law
theorem u_law {x0 : D} {S : Sto} {P : D → Sto → Prop} (h : wps (m_law [.v x0, .un, .un, .un, .un, .un, .un, .un, .un, .un, .un, .un, .un, .un] S) fun fl _ S1 => match fl with
    | .nx => P .non S1
    | .rt d => P d S1
    | _ => False) : wp (c_law [x0] S) P := q_fn rfl h
end Lw
set_option Elab.async false
set_option linter.all false
set_option maxRecDepth 100000
set_option maxHeartbeats 0
namespace Lw
open PySem PySem.Spec PyProof.Rows L2 TL Rf
structure Fc (P : Program) (w : World) (K : PySem.W.Frag) (mg : Str → Option Value) : Prop where
  d__law_deck : DefAt K mg "_law_deck" (top 8)
  d__law_draw : DefAt K mg "_law_draw" (top 9)
  d__law_one : DefAt K mg "_law_one" (top 10)
  d__law_word : DefAt K mg "_law_word" (top 11)
  d__law_thing : DefAt K mg "_law_thing" (top 12)
  d__law_things : DefAt K mg "_law_things" (top 13)
  d_Sameness_add : MDef K "Sameness" "add" "Sameness.add" (mthOf 4 (top 6))
  d_Sameness_root_of : MDef K "Sameness" "root_of" "Sameness.root_of" (mthOf 6 (top 6))
  d_Sameness_is_same : MDef K "Sameness" "is_same" "Sameness.is_same" (mthOf 14 (top 6))
  d_are_unlike : DefAt K mg "are_unlike" (top 5)
  d_Sameness_unite : MDef K "Sameness" "unite" "Sameness.unite" (mthOf 7 (top 6))
  d_Sameness_broken : MDef K "Sameness" "broken" "Sameness.broken" (mthOf 11 (top 6))
  d_Sameness_steps_to : MDef K "Sameness" "steps_to" "Sameness.steps_to" (mthOf 8 (top 6))
  d_Sameness_way_between : MDef K "Sameness" "way_between" "Sameness.way_between" (mthOf 9 (top 6))
  d_Sameness_steps_between : MDef K "Sameness" "steps_between" "Sameness.steps_between" (mthOf 10 (top 6))
  d_Sameness___init__ : MDefD K mg w "Sameness" "__init__" "Sameness.__init__" (mthOf 0 (top 6)) 2
  d_Sameness_twin : MDef K "Sameness" "twin" "Sameness.twin" (mthOf 5 (top 6))
  d_Sameness_trial : MDef K "Sameness" "trial" "Sameness.trial" (mthOf 12 (top 6))
  d_Sameness_tell : MDef K "Sameness" "tell" "Sameness.tell" (mthOf 13 (top 6))
  d_Sameness_classes : MDef K "Sameness" "classes" "Sameness.classes" (mthOf 16 (top 6))
  d__law_classes : DefAt K mg "_law_classes" (top 20)
  d__law_is_bool : DefAt K mg "_law_is_bool" (top 19)
  d_Sameness_may_be_same : MDef K "Sameness" "may_be_same" "Sameness.may_be_same" (mthOf 15 (top 6))
  d__law_state_right : DefAt K mg "_law_state_right" (top 21)
  d__law_like : DefAt K mg "_law_like" (top 14)
  d__law_pair : DefAt K mg "_law_pair" (top 15)
  d__law_divisions : DefAt K mg "_law_divisions" (top 17)
  d__law_can_be_one : DefAt K mg "_law_can_be_one" (top 16)
  d__law_possible : DefAt K mg "_law_possible" (top 18)
  d__law_is_clash : DefAt K mg "_law_is_clash" (top 22)
  d_Sameness_told : PDef K "Sameness" "told" "Sameness.told" (mthOf 2 (top 6))
  d_law : DefAt K mg "law" (top 23)
  fl_answered : FldK K mg ["Sameness"] "answered"
  fl_edges : FldK K mg ["Sameness"] "edges"
  fl_listed : FldK K mg ["Sameness"] "listed"
  fl_roots : FldK K mg ["Sameness"] "roots"
  mf_Sameness_add : MthF K mg "Sameness" "Sameness" "add"
  mf_Sameness_broken : MthF K mg "Sameness" "Sameness" "broken"
  mf_Sameness_classes : MthF K mg "Sameness" "Sameness" "classes"
  mf_Sameness_is_same : MthF K mg "Sameness" "Sameness" "is_same"
  mf_Sameness_may_be_same : MthF K mg "Sameness" "Sameness" "may_be_same"
  mf_Sameness_root_of : MthF K mg "Sameness" "Sameness" "root_of"
  mf_Sameness_steps_between : MthF K mg "Sameness" "Sameness" "steps_between"
  mf_Sameness_steps_to : MthF K mg "Sameness" "Sameness" "steps_to"
  mf_Sameness_tell : MthF K mg "Sameness" "Sameness" "tell"
  mf_Sameness_trial : MthF K mg "Sameness" "Sameness" "trial"
  mf_Sameness_twin : MthF K mg "Sameness" "Sameness" "twin"
  mf_Sameness_unite : MthF K mg "Sameness" "Sameness" "unite"
  mf_Sameness_way_between : MthF K mg "Sameness" "Sameness" "way_between"
  pr_Sameness_told : PrpF K mg "Sameness" "Sameness" "told"
  mk_Sameness : MkF K mg "Sameness" "Sameness"
  b_ValueError : mg "ValueError" = none
  b_abs : mg "abs" = none
  b_all : mg "all" = none
  b_any : mg "any" = none
  b_bool : mg "bool" = none
  b_enumerate : mg "enumerate" = none
  b_int : mg "int" = none
  b_isinstance : mg "isinstance" = none
  b_len : mg "len" = none
  b_list : mg "list" = none
  b_max : mg "max" = none
  b_min : mg "min" = none
  b_range : mg "range" = none
  b_repr : mg "repr" = none
  b_reversed : mg "reversed" = none
  b_sorted : mg "sorted" = none
  b_tuple : mg "tuple" = none
  b_zip : mg "zip" = none
  x_Clash : ClsAt K mg "Clash" ["steps"]
  x_MaybeError : ClsAt K mg "MaybeError" []
  r_Clash : ∀ P : Program, RaiseIn P w K mg "Clash" "steps"
  i_Clash : IsK K mg (.ref (He.ga K "Clash")) is_Clash
  ki_MaybeError : IsI K mg (.ref (He.ga K "MaybeError")) ki_MaybeError
  ki_ValueError : IsI K mg (.type "ValueError") ki_ValueError
section
variable {P : Program} {w : World} {K : PySem.W.Frag} {mg : Str → Option Value} {base : Heap}
theorem sc__law_deck : FnScope ["_law_script", "_law_cell"] ["_law_script"] (defScope (top 8)) := ⟨rfl, rfl, rfl, by decide +kernel, rfl, by decide +kernel, by decide +kernel⟩
theorem ok__law_deck (h : Fc P w K mg) : FnIn P w K mg base "_law_deck" 1 c__law_deck := by
    obtain ⟨f, fd, F, hm⟩ := h.d__law_deck
    refine ⟨f, fd, _, rf_fn (n := 2) (np := 1) (j := 0) (m := m_deck) F sc__law_deck rfl rfl (fun cdv A outer s H E hr tk pss => ?_), hm, F.kp, F.bindsN (fun _ _ _ _ _ _ us hl => match us, hl with | [_], _ => rfl)⟩
    have sc := sc__law_deck
    exact (sb_cons (ss_ret (se_nw (sf_lst (sae_cons (se_nw (sf_lc rfl sc.nd (si_val md_e (SE.pk (se_sl (sp_var (pv 0)) so_none (so_some se_int)))) (blkOk_by (own := [("_law_cell", 1)]) (by rfl)) (fun _ _ _ _ _ => (sg_name (pg_name sc.nd rfl (by first | exact Or.inl rfl | exact Or.inr rfl)))) (fun _ _ _ _ _ => sts_nil) (fun _ _ _ _ _ => (se_callB bAbs_ok (by rfl) h.b_abs (by rfl) (sa_cons (sp_var (pv 1)) sa_nil rfl) rfl (by decide) (by decide))) (by decide) rfl)) (sae_cons se_int sae_nil rfl) rfl)))) sb_nil)
theorem sc__law_draw : FnScope ["_law_deck_here", "_law_many", "_law_place", "_law_cell", "_law_mixed"] ["_law_deck_here", "_law_many"] (defScope (top 9)) := ⟨rfl, rfl, rfl, by decide +kernel, rfl, by decide +kernel, by decide +kernel⟩
theorem ok__law_draw (h : Fc P w K mg) : FnIn P w K mg base "_law_draw" 1 c__law_draw := by
    obtain ⟨f, fd, F, hm⟩ := h.d__law_draw
    refine ⟨f, fd, _, rf_fn (n := 5) (np := 2) (j := 0) (m := m_draw1) F sc__law_draw rfl rfl (fun cdv A outer s H E hr tk pss => ?_), hm, F.kp, F.bindsN (fun _ _ _ _ _ _ us hl => match us, hl with | [_, _], _ => rfl)⟩
    have sc := sc__law_draw
    exact (sb_cons (ss_putO (se_var (pv 0)) se_int (se_bin oAdd_ok (SE.pk (se_ix (sp_var (pv 0)) (SE.pk se_int) rfl)) (SE.pk se_int)) rfl (fun _ => rfl)) (sb_cons (ss_set sc.nd rfl (by first | exact Or.inl rfl | exact Or.inr rfl) rfl (se_bin oMod_ok (SE.pk (se_callT bInt_ok (by rfl) h.b_int (by rfl) (sa_cons (SE.pk (se_ix (sp_var (pv 0)) (SE.pk se_int) rfl)) sa_nil rfl) rfl (by decide) (by decide))) (SE.pk (se_callB (bMax2_ok (by rfl)) (by rfl) h.b_max (by rfl) (sa_cons (SE.pk se_int) (sa_cons (SE.pk (se_callB bLen_ok (by rfl) h.b_len (by rfl) (sa_cons (SE.pk (se_ix (sp_var (pv 0)) (SE.pk se_int) rfl)) sa_nil rfl) rfl (by decide) (by decide))) sa_nil rfl) rfl) rfl (by decide) (by decide)))) rfl) (sb_cons (ss_set sc.nd rfl (by first | exact Or.inl rfl | exact Or.inr rfl) rfl (se_ix (SE.pk (se_bin oAdd_ok (SE.pk (se_ix (sp_var (pv 0)) (SE.pk se_int) rfl)) (SE.pk (se_fz (sf_lst (sae_cons se_int sae_nil rfl)))))) (sp_var (pv 2)) rfl) rfl) (sb_cons (ss_if (st_cmp cGe_ok (sp_var (pv 3)) (SE.pk (se_bin oPow_ok (SE.pk se_int) (SE.pk se_int))) rfl) (sb_cons (ss_putO (se_ix (sp_var (pv 0)) (SE.pk se_int) rfl) (se_var (pv 2)) (se_bin oFdiv_ok (sp_var (pv 3)) (sp_var (pv 1))) rfl (fun _ => rfl)) (sb_cons (ss_ret (se_bin oMod_ok (SE.pk (se_callT bInt_ok (by rfl) h.b_int (by rfl) (sa_cons (sp_var (pv 3)) sa_nil rfl) rfl (by decide) (by decide))) (sp_var (pv 1)))) sb_nil)) sb_nil) (sb_cons (ss_set sc.nd rfl (by first | exact Or.inl rfl | exact Or.inr rfl) rfl (se_bin oPow_ok (SE.pk (se_bin oAdd_ok (SE.pk (se_bin oAdd_ok (SE.pk (se_bin oMod_ok (SE.pk (se_callT bInt_ok (by rfl) h.b_int (by rfl) (sa_cons (sp_var (pv 3)) sa_nil rfl) rfl (by decide) (by decide))) (SE.pk se_int))) (SE.pk (se_bin oMul_ok (SE.pk se_int) (SE.pk (se_ix (sp_var (pv 0)) (SE.pk se_int) rfl)))))) (SE.pk se_int))) (SE.pk se_int)) rfl) (sb_cons (ss_ret (se_bin oMod_ok (SE.pk (se_callT bInt_ok (by rfl) h.b_int (by rfl) (sa_cons (SE.pk (se_bin oMod_ok (SE.pk (se_callT bInt_ok (by rfl) h.b_int (by rfl) (sa_cons (sp_var (pv 4)) sa_nil rfl) rfl (by decide) (by decide))) (SE.pk se_int))) sa_nil rfl) rfl (by decide) (by decide))) (sp_var (pv 1)))) sb_nil))))))
theorem sc__law_one : FnScope ["_law_deck_here", "_law_items"] ["_law_deck_here", "_law_items"] (defScope (top 10)) := ⟨rfl, rfl, rfl, by decide +kernel, rfl, by decide +kernel, by decide +kernel⟩
theorem ok__law_one (h : Fc P w K mg) : FnIn P w K mg base "_law_one" 2 c__law_one := by
    obtain ⟨f, fd, F, hm⟩ := h.d__law_one
    refine ⟨f, fd, _, rf_fn (n := 2) (np := 2) (j := 1) (m := m_one) F sc__law_one rfl rfl (fun cdv A outer s H E hr tk pss => ?_), hm, F.kp, F.bindsN (fun _ _ _ _ _ _ us hl => match us, hl with | [_, _], _ => rfl)⟩
    have sc := sc__law_one
    exact (sb_cons (ss_ret (se_ix (sp_var (pv 1)) (SE.pk (se_call (FnIn.at (ok__law_draw h) hr (by omega) rfl rfl rfl rfl rfl) (by rfl) tk (sae_cons (se_var (pv 0)) (sae_cons (se_callB bLen_ok (by rfl) h.b_len (by rfl) (sa_cons (sp_var (pv 1)) sa_nil rfl) rfl (by decide) (by decide)) sae_nil rfl) rfl) rfl (by decide))) rfl)) sb_nil)
theorem sc__law_word : FnScope ["_law_deck_here", "_law_letters", "_law_many", "_law_k"] ["_law_deck_here"] (defScope (top 11)) := ⟨rfl, rfl, rfl, by decide +kernel, rfl, by decide +kernel, by decide +kernel⟩
theorem ok__law_word (h : Fc P w K mg) : FnIn P w K mg base "_law_word" 3 c__law_word := by
    obtain ⟨f, fd, F, hm⟩ := h.d__law_word
    refine ⟨f, fd, _, rf_fn (n := 4) (np := 1) (j := 2) (m := m__law_word) F sc__law_word rfl rfl (fun cdv A outer s H E hr tk pss => ?_), hm, F.kp, F.bindsN (fun _ _ _ _ _ _ us hl => match us, hl with | [_], _ => rfl)⟩
    have sc := sc__law_word
    exact (sb_cons (ss_if (st_cmp cGt_ok (SE.pk (se_call (FnIn.at (ok__law_draw h) hr (by omega) rfl rfl rfl rfl rfl) (by rfl) tk (sae_cons (se_var (pv 0)) (sae_cons se_int sae_nil rfl) rfl) rfl (by decide))) (SE.pk se_int) rfl) (sb_cons (ss_ret (se_call (FnIn.at (ok__law_one h) hr (by omega) rfl rfl rfl rfl rfl) (by rfl) tk (sae_cons (se_var (pv 0)) (sae_cons (se_fz (sf_lst (sae_cons (se_str (l := [97]) (by decide +kernel)) (sae_cons (se_str (l := [98]) (by decide +kernel)) (sae_cons (se_str (l := [48]) (by decide +kernel)) sae_nil rfl) rfl) rfl))) sae_nil rfl) rfl) rfl (by decide))) sb_nil) sb_nil) (sb_cons (ss_set sc.nd rfl (by first | exact Or.inl rfl | exact Or.inr rfl) rfl (se_str (l := [97, 98, 99, 100, 101, 102, 103, 104, 105, 106, 107, 108, 109, 110, 111, 112, 113, 114, 115, 116, 117, 118, 119, 120, 121, 122, 48, 49, 50, 51, 52, 53, 54, 55, 56, 57]) (by decide +kernel)) rfl) (sb_cons (ss_set sc.nd rfl (by first | exact Or.inl rfl | exact Or.inr rfl) rfl (se_bin oAdd_ok (SE.pk se_int) (SE.pk (se_call (FnIn.at (ok__law_draw h) hr (by omega) rfl rfl rfl rfl rfl) (by rfl) tk (sae_cons (se_var (pv 0)) (sae_cons se_int sae_nil rfl) rfl) rfl (by decide)))) rfl) (sb_cons (ss_ret (se_join (se_str (l := []) (by decide +kernel)) (SE.pk (se_fz (sf_lc rfl sc.nd (si_rng1 md_e (by rfl) h.b_range (SA.q (sa_cons (sp_var (pv 2)) sa_nil rfl)) rfl) (blkOk_by (own := [("_law_k", 3)]) (by rfl)) (fun _ _ _ _ _ => (sg_name (pg_name sc.nd rfl (by first | exact Or.inl rfl | exact Or.inr rfl)))) (fun _ _ _ _ _ => sts_nil) (fun _ _ _ _ _ => (se_ix (sp_var (pv 1)) (SE.pk (se_call (FnIn.at (ok__law_draw h) hr (by omega) rfl rfl rfl rfl rfl) (by rfl) takes_no (sae_cons (se_var (pv 0)) (sae_cons se_int sae_nil rfl) rfl) rfl (by decide))) rfl)) (by decide) rfl))) rfl rfl rfl)) sb_nil))))
theorem sc__law_thing : FnScope ["_law_deck_here", "_law_things_here", "_law_kind", "_law_fixed", "_law_k", "_law_some", "_law_many"] ["_law_deck_here", "_law_things_here"] (defScope (top 12)) := ⟨rfl, rfl, rfl, by decide +kernel, rfl, by decide +kernel, by decide +kernel⟩
theorem ok__law_thing (h : Fc P w K mg) : FnIn P w K mg base "_law_thing" 4 c__law_thing := by
    obtain ⟨f, fd, F, hm⟩ := h.d__law_thing
    refine ⟨f, fd, _, rf_fn (n := 7) (np := 2) (j := 3) (m := m__law_thing) F sc__law_thing rfl rfl (fun cdv A outer s H E hr tk pss => ?_), hm, F.kp, F.bindsN (fun _ _ _ _ _ _ us hl => match us, hl with | [_, _], _ => rfl)⟩
    have sc := sc__law_thing
    exact (sb_cons (ss_set sc.nd rfl (by first | exact Or.inl rfl | exact Or.inr rfl) rfl (se_call (FnIn.at (ok__law_draw h) hr (by omega) rfl rfl rfl rfl rfl) (by rfl) tk (sae_cons (se_var (pv 0)) (sae_cons se_int sae_nil rfl) rfl) rfl (by decide)) rfl) (sb_cons (by first | exact ss_setLc (ps_lc rfl sc.nd rfl rfl rfl rfl rfl (si_rng1 md_e (by rfl) h.b_range (SA.q (sa_cons (SE.pk (se_callB bLen_ok (by rfl) h.b_len (by rfl) (sa_cons (sp_var (pv 1)) sa_nil rfl) rfl (by decide) (by decide))) sa_nil rfl)) rfl) (blkOk_by (own := [("_law_k", 4)]) (by rfl)) (fun _ _ _ _ _ => (sg_name (pg_name sc.nd rfl (by first | exact Or.inl rfl | exact Or.inr rfl)))) (fun _ _ _ _ _ => (sts_one (st_cmp (cNe_ok hr.units) (SE.pk (se_ix (SE.pk (se_ix (sp_var (pv 1)) (sp_var (pv 4)) rfl)) (SE.pk se_int) rfl)) (SE.pk (se_str (l := [114, 111, 119]) (by decide +kernel))) rfl))) (fun _ _ _ _ _ => (se_var (pv 4))) (by decide) rfl) | exact ss_setS sc.nd rfl (by first | exact Or.inl rfl | exact Or.inr rfl) rfl (se_fz (sf_lc rfl sc.nd (si_rng1 md_e (by rfl) h.b_range (SA.q (sa_cons (SE.pk (se_callB bLen_ok (by rfl) h.b_len (by rfl) (sa_cons (sp_var (pv 1)) sa_nil rfl) rfl (by decide) (by decide))) sa_nil rfl)) rfl) (blkOk_by (own := [("_law_k", 4)]) (by rfl)) (fun _ _ _ _ _ => (sg_name (pg_name sc.nd rfl (by first | exact Or.inl rfl | exact Or.inr rfl)))) (fun _ _ _ _ _ => (sts_one (st_cmp (cNe_ok hr.units) (SE.pk (se_ix (SE.pk (se_ix (sp_var (pv 1)) (sp_var (pv 4)) rfl)) (SE.pk se_int) rfl)) (SE.pk (se_str (l := [114, 111, 119]) (by decide +kernel))) rfl))) (fun _ _ _ _ _ => (se_var (pv 4))) (by decide) rfl)) rfl) (sb_cons (ss_if (st_cmp cLt_ok (sp_var (pv 2)) (SE.pk se_int) rfl) (sb_cons (ss_set sc.nd rfl (by first | exact Or.inl rfl | exact Or.inr rfl) rfl (se_fz (sf_lst (sae_cons se_int (sae_cons se_int (sae_cons se_int (sae_cons (se_neg se_int) (sae_cons (se_bin oPow_ok (SE.pk se_int) (SE.pk se_int)) (sae_cons (se_call (FnIn.at (ok__law_draw h) hr (by omega) rfl rfl rfl rfl rfl) (by rfl) tk (sae_cons (se_var (pv 0)) (sae_cons (se_bin oPow_ok (SE.pk se_int) (SE.pk se_int)) sae_nil rfl) rfl) rfl (by decide)) sae_nil rfl) rfl) rfl) rfl) rfl) rfl))) rfl) (sb_cons (ss_ret (se_tup (sae_cons (se_str (l := [110, 117, 109, 98, 101, 114]) (by decide +kernel)) (sae_cons (se_call (FnIn.at (ok__law_one h) hr (by omega) rfl rfl rfl rfl rfl) (by rfl) tk (sae_cons (se_var (pv 0)) (sae_cons (se_var (pv 5)) sae_nil rfl) rfl) rfl (by decide)) sae_nil rfl) rfl))) sb_nil)) sb_nil) (sb_cons (ss_if (st_cmp cLt_ok (sp_var (pv 2)) (SE.pk se_int) rfl) (sb_cons (ss_ret (se_tup (sae_cons (se_str (l := [111, 100, 100]) (by decide +kernel)) sae_nil rfl))) sb_nil) sb_nil) (sb_cons (ss_if (st_cmp (cEq_ok hr.units) (sp_var (pv 2)) (SE.pk se_int) rfl) (sb_cons (ss_ret (se_tup (sae_cons (se_str (l := [119, 111, 114, 100]) (by decide +kernel)) (sae_cons (se_call (FnIn.at (ok__law_word h) hr (by omega) rfl rfl rfl rfl rfl) (by rfl) tk (sae_cons (se_var (pv 0)) sae_nil rfl) rfl (by decide)) sae_nil rfl) rfl))) sb_nil) sb_nil) (sb_cons (ss_if (st_cmp (cEq_ok hr.units) (sp_var (pv 2)) (SE.pk se_int) rfl) (sb_cons (ss_ret (se_tup (sae_cons (se_str (l := [114, 111, 119]) (by decide +kernel)) sae_nil rfl))) sb_nil) sb_nil) (sb_cons (ss_if (st_cmp (cEq_ok hr.units) (sp_var (pv 3)) (SE.pk (se_fz (sf_lst sae_nil))) rfl) (sb_cons (ss_ret (se_tup (sae_cons (se_str (l := [116, 117, 112, 108, 101]) (by decide +kernel)) (sae_cons (se_tup sae_nil) sae_nil rfl) rfl))) sb_nil) sb_nil) (sb_cons (ss_set sc.nd rfl (by first | exact Or.inl rfl | exact Or.inr rfl) rfl (se_call (FnIn.at (ok__law_one h) hr (by omega) rfl rfl rfl rfl rfl) (by rfl) tk (sae_cons (se_var (pv 0)) (sae_cons (se_fz (sf_lst (sae_cons se_int (sae_cons se_int (sae_cons se_int (sae_cons se_int (sae_cons se_int (sae_cons se_int sae_nil rfl) rfl) rfl) rfl) rfl) rfl))) sae_nil rfl) rfl) rfl (by decide)) rfl) (sb_cons (ss_ret (se_tup (sae_cons (se_str (l := [116, 117, 112, 108, 101]) (by decide +kernel)) (sae_cons (se_callT bTuple_ok (by rfl) h.b_tuple (by rfl) (sa_cons (SE.pk (se_fz (sf_lc rfl sc.nd (si_rng1 md_e (by rfl) h.b_range (SA.q (sa_cons (sp_var (pv 6)) sa_nil rfl)) rfl) (blkOk_by (own := [("_law_k", 4)]) (by rfl)) (fun _ _ _ _ _ => (sg_name (pg_name sc.nd rfl (by first | exact Or.inl rfl | exact Or.inr rfl)))) (fun _ _ _ _ _ => sts_nil) (fun _ _ _ _ _ => (se_call (FnIn.at (ok__law_one h) hr (by omega) rfl rfl rfl rfl rfl) (by rfl) takes_no (sae_cons (se_var (pv 0)) (sae_cons (se_var (pv 3)) sae_nil rfl) rfl) rfl (by decide))) (by decide) rfl))) sa_nil rfl) rfl (by decide) (by decide)) sae_nil rfl) rfl))) sb_nil)))))))))
theorem sc__law_things : FnScope ["_law_deck_here", "_law_many", "_law_found", "_law_k"] ["_law_deck_here", "_law_many"] (defScope (top 13)) := ⟨rfl, rfl, rfl, by decide +kernel, rfl, by decide +kernel, by decide +kernel⟩
theorem ok__law_things (h : Fc P w K mg) : FnIn P w K mg base "_law_things" 5 c__law_things := by
    obtain ⟨f, fd, F, hm⟩ := h.d__law_things
    refine ⟨f, fd, _, rf_fn (n := 4) (np := 2) (j := 4) (m := m__law_things) F sc__law_things rfl rfl (fun cdv A outer s H E hr tk pss => ?_), hm, F.kp, F.bindsN (fun _ _ _ _ _ _ us hl => match us, hl with | [_, _], _ => rfl)⟩
    have sc := sc__law_things
    exact (sb_cons (ss_set sc.nd rfl (by first | exact Or.inl rfl | exact Or.inr rfl) rfl (se_nw (sf_lst sae_nil)) rfl) (sb_cons (ss_for pss rfl (si_rng1 md_p (by rfl) h.b_range (SAE.q (sae_cons (se_var (pv 1)) sae_nil rfl)) rfl) (sg_name (pg_name sc.nd rfl (by first | exact Or.inl rfl | exact Or.inr rfl))) (sb_cons (ss_appO (se_var (pv 2)) (se_call (FnIn.at (ok__law_thing h) hr (by omega) rfl rfl rfl rfl rfl) (by rfl) tk (sae_cons (se_var (pv 0)) (sae_cons (se_var (pv 2)) sae_nil rfl) rfl) rfl (by decide)) rfl rfl rfl) sb_nil) rfl) (sb_cons (ss_ret (se_callT bTuple_ok (by rfl) h.b_tuple (by rfl) (sa_cons (sp_var (pv 2)) sa_nil rfl) rfl (by decide) (by decide))) sb_nil)))
theorem sc_Sameness_add : FnScope ["self", "thing"] ["self", "thing"] (defScope (mthOf 4 (top 6))) := ⟨rfl, rfl, rfl, by decide +kernel, rfl, by decide +kernel, by decide +kernel⟩
theorem ok_Sameness_add (h : Fc P w K mg) : MthIn P w K mg base "Sameness" "add" 1 c_Sameness_add := by
    obtain ⟨fd, F⟩ := h.d_Sameness_add
    refine ⟨⟨fd, _, rf_fn (n := 2) (np := 2) (j := 0) (m := m_Sameness_add) F sc_Sameness_add rfl rfl (fun cdv A outer s H E hr tk pss => ?_), F.bindsN (fun _ _ _ _ _ _ us hl => match us, hl with | [_, _], _ => rfl)⟩⟩
    have sc := sc_Sameness_add
    exact (sb_cons (ss_appO (se_fld h.fl_roots (se_var (pv 0)) (not_super rfl)) (se_callB bLen_ok (by rfl) h.b_len (by rfl) (sa_cons (SE.pk (se_fld h.fl_listed (se_var (pv 0)) (not_super rfl))) sa_nil rfl) rfl (by decide) (by decide)) rfl rfl rfl) (sb_cons (ss_appO (se_fld h.fl_listed (se_var (pv 0)) (not_super rfl)) (se_var (pv 1)) rfl rfl rfl) (sb_cons (ss_ret (se_bin oSub_ok (SE.pk (se_callB bLen_ok (by rfl) h.b_len (by rfl) (sa_cons (SE.pk (se_fld h.fl_listed (se_var (pv 0)) (not_super rfl))) sa_nil rfl) rfl (by decide) (by decide))) (SE.pk se_int))) sb_nil)))
theorem sc_Sameness_root_of : FnScope ["self", "thing"] ["self", "thing"] (defScope (mthOf 6 (top 6))) := ⟨rfl, rfl, rfl, by decide +kernel, rfl, by decide +kernel, by decide +kernel⟩
theorem ok_Sameness_root_of (h : Fc P w K mg) : MthIn P w K mg base "Sameness" "root_of" 1 c_Sameness_root_of := by
    obtain ⟨fd, F⟩ := h.d_Sameness_root_of
    refine ⟨⟨fd, _, rf_fn (n := 2) (np := 2) (j := 0) (m := m_Sameness_root_of) F sc_Sameness_root_of rfl rfl (fun cdv A outer s H E hr tk pss => ?_), F.bindsN (fun _ _ _ _ _ _ us hl => match us, hl with | [_, _], _ => rfl)⟩⟩
    have sc := sc_Sameness_root_of
    exact (sb_cons (ss_while pss (st_cmp (cNe_ok hr.units) (SE.pk (se_ix (SE.pk (se_fld h.fl_roots (se_var (pv 0)) (not_super rfl))) (sp_var (pv 1)) rfl)) (sp_var (pv 1)) rfl) (sb_cons (ss_set sc.nd rfl (by first | exact Or.inl rfl | exact Or.inr rfl) rfl (se_ix (SE.pk (se_fld h.fl_roots (se_var (pv 0)) (not_super rfl))) (sp_var (pv 1)) rfl) rfl) sb_nil)) (sb_cons (ss_ret (se_var (pv 1))) sb_nil))
theorem sc_Sameness_is_same : FnScope ["self", "one", "other"] ["self", "one", "other"] (defScope (mthOf 14 (top 6))) := ⟨rfl, rfl, rfl, by decide +kernel, rfl, by decide +kernel, by decide +kernel⟩
theorem ok_Sameness_is_same (h : Fc P w K mg) : MthIn P w K mg base "Sameness" "is_same" 2 c_Sameness_is_same := by
    obtain ⟨fd, F⟩ := h.d_Sameness_is_same
    refine ⟨⟨fd, _, rf_fn (n := 3) (np := 3) (j := 1) (m := m_Sameness_is_same) F sc_Sameness_is_same rfl rfl (fun cdv A outer s H E hr tk pss => ?_), F.bindsN (fun _ _ _ _ _ _ us hl => match us, hl with | [_, _, _], _ => rfl)⟩⟩
    have sc := sc_Sameness_is_same
    exact (sb_cons (ss_ret (se_cmp (cEq_ok hr.units) (SE.pk (se_meth (mth_cons (MthIn.at (ok_Sameness_root_of h) h.mf_Sameness_root_of hr (by omega) rfl rfl rfl rfl rfl) mth_nil) tk (se_var (pv 0)) (sae_cons (se_var (pv 1)) sae_nil rfl) rfl rfl)) (SE.pk (se_meth (mth_cons (MthIn.at (ok_Sameness_root_of h) h.mf_Sameness_root_of hr (by omega) rfl rfl rfl rfl rfl) mth_nil) tk (se_var (pv 0)) (sae_cons (se_var (pv 2)) sae_nil rfl) rfl rfl)) rfl)) sb_nil)
theorem sc_are_unlike : FnScope ["things", "one", "other", "first", "second"] ["things", "one", "other"] (defScope (top 5)) := ⟨rfl, rfl, rfl, by decide +kernel, rfl, by decide +kernel, by decide +kernel⟩
theorem ok_are_unlike (h : Fc P w K mg) : FnIn P w K mg base "are_unlike" 1 c_are_unlike := by
    obtain ⟨f, fd, F, hm⟩ := h.d_are_unlike
    refine ⟨f, fd, _, rf_fn (n := 5) (np := 3) (j := 0) (m := m_are_unlike) F sc_are_unlike rfl rfl (fun cdv A outer s H E hr tk pss => ?_), hm, F.kp, F.bindsN (fun _ _ _ _ _ _ us hl => match us, hl with | [_, _, _], _ => rfl)⟩
    have sc := sc_are_unlike
    exact (sb_cons (ss_par2 (i := 3) (j := 4) rfl sc.nd rfl rfl (by decide) rfl rfl (sae_cons (se_ix (sp_var (pv 0)) (sp_var (pv 1)) rfl) (sae_cons (se_ix (sp_var (pv 0)) (sp_var (pv 2)) rfl) sae_nil rfl) rfl) rfl) (sb_cons (ss_if (st_cmp (cEq_ok hr.units) (sp_var (pv 1)) (sp_var (pv 2)) rfl) (sb_cons (ss_ret se_bl) sb_nil) sb_nil) (sb_cons (ss_if (PW.pt (sw_or (st_cmp (cNe_ok hr.units) (SE.pk (se_ix (sp_var (pv 3)) (SE.pk se_int) rfl)) (SE.pk (se_ix (sp_var (pv 4)) (SE.pk se_int) rfl)) rfl) (sw_or1 (st_cmp (cEq_ok hr.units) (SE.pk (se_ix (sp_var (pv 3)) (SE.pk se_int) rfl)) (SE.pk (se_str (l := [114, 111, 119]) (by decide +kernel))) rfl)))) (sb_cons (ss_ret se_bl) sb_nil) sb_nil) (sb_cons (ss_if (st_cmp (cEq_ok hr.units) (SE.pk (se_ix (sp_var (pv 3)) (SE.pk se_int) rfl)) (SE.pk (se_str (l := [116, 117, 112, 108, 101]) (by decide +kernel))) rfl) (sb_cons (ss_ret (se_cmp (cNe_ok hr.units) (SE.pk (se_callB bLen_ok (by rfl) h.b_len (by rfl) (sa_cons (SE.pk (se_ix (sp_var (pv 3)) (SE.pk se_int) rfl)) sa_nil rfl) rfl (by decide) (by decide))) (SE.pk (se_callB bLen_ok (by rfl) h.b_len (by rfl) (sa_cons (SE.pk (se_ix (sp_var (pv 4)) (SE.pk se_int) rfl)) sa_nil rfl) rfl (by decide) (by decide))) rfl)) sb_nil) sb_nil) (sb_cons (ss_ret (se_cmp (cNe_ok hr.units) (sp_var (pv 3)) (sp_var (pv 4)) rfl)) sb_nil)))))
theorem sc_Sameness_unite : FnScope ["self", "one", "other", "reason", "waiting", "at", "edge", "first", "second", "others", "index", "part"] ["self", "one", "other", "reason"] (defScope (mthOf 7 (top 6))) := ⟨rfl, rfl, rfl, by decide +kernel, rfl, by decide +kernel, by decide +kernel⟩
theorem ok_Sameness_unite (h : Fc P w K mg) : MthIn P w K mg base "Sameness" "unite" 2 c_Sameness_unite := by
    obtain ⟨fd, F⟩ := h.d_Sameness_unite
    refine ⟨⟨fd, _, rf_fn (n := 12) (np := 4) (j := 1) (m := m_Sameness_unite) F sc_Sameness_unite rfl rfl (fun cdv A outer s H E hr tk pss => ?_), F.bindsN (fun _ _ _ _ _ _ us hl => match us, hl with | [_, _, _, _], _ => rfl)⟩⟩
    have sc := sc_Sameness_unite
    exact (sb_cons (ss_own sc.nd rfl (by first | exact Or.inl rfl | exact Or.inr rfl) rfl (sf_lst (sae_cons (se_tup (sae_cons (se_var (pv 1)) (sae_cons (se_var (pv 2)) (sae_cons (se_var (pv 3)) sae_nil rfl) rfl) rfl)) sae_nil rfl)) rfl) (sb_cons (ss_set sc.nd rfl (by first | exact Or.inl rfl | exact Or.inr rfl) rfl se_int rfl) (sb_cons (ss_while pss (st_cmp cLt_ok (sp_var (pv 5)) (SE.pk (se_callB bLen_ok (by rfl) h.b_len (by rfl) (sa_cons (sp_var (pv 4)) sa_nil rfl) rfl (by decide) (by decide))) rfl) (sb_cons (ss_set sc.nd rfl (by first | exact Or.inl rfl | exact Or.inr rfl) rfl (se_ix (sp_var (pv 4)) (sp_var (pv 5)) rfl) rfl) (sb_cons (ss_aug sc.nd rfl (by first | exact Or.inl rfl | exact Or.inr rfl) rfl iAdd_ok se_int) (sb_cons (ss_par2 (i := 7) (j := 8) rfl sc.nd rfl rfl (by decide) rfl rfl (sae_cons (se_meth (mth_cons (MthIn.at (ok_Sameness_root_of h) h.mf_Sameness_root_of hr (by omega) rfl rfl rfl rfl rfl) mth_nil) tk (se_var (pv 0)) (sae_cons (se_ix (sp_var (pv 6)) (SE.pk se_int) rfl) sae_nil rfl) rfl rfl) (sae_cons (se_meth (mth_cons (MthIn.at (ok_Sameness_root_of h) h.mf_Sameness_root_of hr (by omega) rfl rfl rfl rfl rfl) mth_nil) tk (se_var (pv 0)) (sae_cons (se_ix (sp_var (pv 6)) (SE.pk se_int) rfl) sae_nil rfl) rfl rfl) sae_nil rfl) rfl) rfl) (sb_cons (ss_if (st_cmp (cEq_ok hr.units) (sp_var (pv 7)) (sp_var (pv 8)) rfl) (sb_cons ss_cnt sb_nil) sb_nil) (sb_cons (ss_if (st_truth (SE.pk (se_call (FnIn.at (ok_are_unlike h) hr (by omega) rfl rfl rfl rfl rfl) (by rfl) tk (sae_cons (se_fld h.fl_listed (se_var (pv 0)) (not_super rfl)) (sae_cons (se_ix (sp_var (pv 6)) (SE.pk se_int) rfl) (sae_cons (se_ix (sp_var (pv 6)) (SE.pk se_int) rfl) sae_nil rfl) rfl) rfl) rfl (by decide))) rfl) (sb_cons (ss_ret (se_var (pv 6))) sb_nil) sb_nil) (sb_cons (ss_putO (se_fld h.fl_roots (se_var (pv 0)) (not_super rfl)) (se_callB (bMax2_ok (by rfl)) (by rfl) h.b_max (by rfl) (sa_cons (sp_var (pv 7)) (sa_cons (sp_var (pv 8)) sa_nil rfl) rfl) rfl (by decide) (by decide)) (se_callB (bMin2_ok (by rfl)) (by rfl) h.b_min (by rfl) (sa_cons (sp_var (pv 7)) (sa_cons (sp_var (pv 8)) sa_nil rfl) rfl) rfl (by decide) (by decide)) rfl (fun _ => rfl)) (sb_cons (ss_appO (se_fld h.fl_edges (se_var (pv 0)) (not_super rfl)) (se_var (pv 6)) rfl rfl rfl) (sb_cons (ss_if (st_cmp (cEq_ok hr.units) (SE.pk (se_ix (SE.pk (se_ix (SE.pk (se_fld h.fl_listed (se_var (pv 0)) (not_super rfl))) (SE.pk (se_ix (sp_var (pv 6)) (SE.pk se_int) rfl)) rfl)) (SE.pk se_int) rfl)) (SE.pk (se_str (l := [116, 117, 112, 108, 101]) (by decide +kernel))) rfl) (sb_cons (ss_set sc.nd rfl (by first | exact Or.inl rfl | exact Or.inr rfl) rfl (se_ix (SE.pk (se_ix (SE.pk (se_fld h.fl_listed (se_var (pv 0)) (not_super rfl))) (SE.pk (se_ix (sp_var (pv 6)) (SE.pk se_int) rfl)) rfl)) (SE.pk se_int) rfl) rfl) (sb_cons (ss_for pss rfl (si_enS md_p (by rfl) h.b_enumerate (SAE.q (sae_cons (se_ix (SE.pk (se_ix (SE.pk (se_fld h.fl_listed (se_var (pv 0)) (not_super rfl))) (SE.pk (se_ix (sp_var (pv 6)) (SE.pk se_int) rfl)) rfl)) (SE.pk se_int) rfl) sae_nil rfl)) rfl) (sg_tup rfl (sgs_cons (sg_name (pg_name sc.nd rfl (by first | exact Or.inl rfl | exact Or.inr rfl))) (sgs_cons (sg_name (pg_name sc.nd rfl (by first | exact Or.inl rfl | exact Or.inr rfl))) sgs_nil rfl) rfl) rfl rfl) (sb_cons (ss_app (pv 4) (se_tup (sae_cons (se_var (pv 11)) (sae_cons (se_ix (sp_var (pv 9)) (sp_var (pv 10)) rfl) (sae_cons (se_tup (sae_cons (se_str (l := [112, 97, 114, 116]) (by decide +kernel)) (sae_cons (se_bin oSub_ok (SE.pk (se_callB bLen_ok (by rfl) h.b_len (by rfl) (sa_cons (SE.pk (se_fld h.fl_edges (se_var (pv 0)) (not_super rfl))) sa_nil rfl) rfl (by decide) (by decide))) (SE.pk se_int)) (sae_cons (se_var (pv 10)) sae_nil rfl) rfl) rfl)) sae_nil rfl) rfl) rfl)) rfl rfl) sb_nil) rfl) sb_nil)) sb_nil) sb_nil))))))))) (sb_cons (ss_ret se_non) sb_nil))))
theorem sc_Sameness_broken : FnScope ["self", "one", "other", "answer"] ["self"] (defScope (mthOf 11 (top 6))) := ⟨rfl, rfl, rfl, by decide +kernel, rfl, by decide +kernel, by decide +kernel⟩
theorem ok_Sameness_broken (h : Fc P w K mg) : MthIn P w K mg base "Sameness" "broken" 2 c_Sameness_broken := by
    obtain ⟨fd, F⟩ := h.d_Sameness_broken
    refine ⟨⟨fd, _, rf_fn (n := 4) (np := 1) (j := 1) (m := m_Sameness_broken) F sc_Sameness_broken rfl rfl (fun cdv A outer s H E hr tk pss => ?_), F.bindsN (fun _ _ _ _ _ _ us hl => match us, hl with | [_], _ => rfl)⟩⟩
    have sc := sc_Sameness_broken
    exact (sb_cons (ss_for pss rfl (si_val md_p (se_fld h.fl_answered (se_var (pv 0)) (not_super rfl))) (sg_tup rfl (sgs_cons (sg_name (pg_name sc.nd rfl (by first | exact Or.inl rfl | exact Or.inr rfl))) (sgs_cons (sg_name (pg_name sc.nd rfl (by first | exact Or.inl rfl | exact Or.inr rfl))) (sgs_cons (sg_name (pg_name sc.nd rfl (by first | exact Or.inl rfl | exact Or.inr rfl))) sgs_nil rfl) rfl) rfl) rfl rfl) (sb_cons (ss_if (PW.pt (sw_and (st_cmp (cEq_ok hr.units) (sp_var (pv 3)) (SE.pk se_int) rfl) (sw_and1 (st_cmp (cEq_ok hr.units) (SE.pk (se_meth (mth_cons (MthIn.at (ok_Sameness_root_of h) h.mf_Sameness_root_of hr (by omega) rfl rfl rfl rfl rfl) mth_nil) tk (se_var (pv 0)) (sae_cons (se_var (pv 1)) sae_nil rfl) rfl rfl)) (SE.pk (se_meth (mth_cons (MthIn.at (ok_Sameness_root_of h) h.mf_Sameness_root_of hr (by omega) rfl rfl rfl rfl rfl) mth_nil) tk (se_var (pv 0)) (sae_cons (se_var (pv 2)) sae_nil rfl) rfl rfl)) rfl)))) (sb_cons (ss_ret (se_tup (sae_cons (se_var (pv 1)) (sae_cons (se_var (pv 2)) sae_nil rfl) rfl))) sb_nil) sb_nil) sb_nil) rfl) (sb_cons (ss_ret se_non) sb_nil))
theorem sc_Sameness_steps_to : FnScope ["self", "rows", "numbers", "edge", "line", "one", "other", "reason", "key", "why"] ["self", "rows", "numbers", "edge"] (defScope (mthOf 8 (top 6))) := ⟨rfl, rfl, rfl, by decide +kernel, rfl, by decide +kernel, by decide +kernel⟩
theorem ok_Sameness_steps_to (h : Fc P w K mg) : MthIn P w K mg base "Sameness" "steps_to" 1 c_Sameness_steps_to := by
    obtain ⟨fd, F⟩ := h.d_Sameness_steps_to
    refine ⟨⟨fd, _, rf_fn (n := 10) (np := 4) (j := 0) (m := m_Sameness_steps_to) F sc_Sameness_steps_to rfl rfl (fun cdv A outer s H E hr tk pss => ?_), F.bindsN (fun _ _ _ _ _ _ us hl => match us, hl with | [_, _, _, _], _ => rfl)⟩⟩
    have sc := sc_Sameness_steps_to
    exact (sb_cons (ss_own sc.nd rfl (by first | exact Or.inl rfl | exact Or.inr rfl) rfl (sf_lst (sae_cons (se_var (pv 3)) sae_nil rfl)) rfl) (sb_cons (ss_while pss (st_cmp (cEq_ok hr.units) (SE.pk (se_ix (SE.pk (se_ix (SE.pk (se_ix (sp_var (pv 4)) (SE.pk (se_neg se_int)) rfl)) (SE.pk se_int) rfl)) (SE.pk se_int) rfl)) (SE.pk (se_str (l := [112, 97, 114, 116]) (by decide +kernel))) rfl) (sb_cons (ss_app (pv 4) (se_ix (SE.pk (se_fld h.fl_edges (se_var (pv 0)) (not_super rfl))) (SE.pk (se_ix (SE.pk (se_ix (SE.pk (se_ix (sp_var (pv 4)) (SE.pk (se_neg se_int)) rfl)) (SE.pk se_int) rfl)) (SE.pk se_int) rfl)) rfl) rfl rfl) sb_nil)) (sb_cons (ss_for pss rfl (si_rev md_p (by rfl) h.b_reversed (se_fz (sf_callT fList_ok rfl h.b_list rfl (sa_cons (sp_var (pv 4)) sa_nil rfl) rfl (by decide) (by decide))) rfl) (sg_tup rfl (sgs_cons (sg_name (pg_name sc.nd rfl (by first | exact Or.inl rfl | exact Or.inr rfl))) (sgs_cons (sg_name (pg_name sc.nd rfl (by first | exact Or.inl rfl | exact Or.inr rfl))) (sgs_cons (sg_name (pg_name sc.nd rfl (by first | exact Or.inl rfl | exact Or.inr rfl))) sgs_nil rfl) rfl) rfl) rfl rfl) (sb_cons (ss_set sc.nd rfl (by first | exact Or.inl rfl | exact Or.inr rfl) rfl (se_tup (sae_cons (se_var (pv 5)) (sae_cons (se_var (pv 6)) (sae_cons (se_var (pv 7)) sae_nil rfl) rfl) rfl)) rfl) (sb_cons (ss_if (st_notInN (un9 hr.units) (se_var (pv 8)) (se_var (pv 2)) rfl) (sb_cons (ss_set sc.nd rfl (by first | exact Or.inl rfl | exact Or.inr rfl) rfl (se_var (pv 7)) rfl) (sb_cons (ss_if (st_cmp (cEq_ok hr.units) (SE.pk (se_ix (sp_var (pv 7)) (SE.pk se_int) rfl)) (SE.pk (se_str (l := [112, 97, 114, 116]) (by decide +kernel))) rfl) (sb_cons (ss_set sc.nd rfl (by first | exact Or.inl rfl | exact Or.inr rfl) rfl (se_tup (sae_cons (se_str (l := [112, 97, 114, 116]) (by decide +kernel)) (sae_cons (se_getN (un9 hr.units) (se_var (pv 2)) (se_ix (SE.pk (se_fld h.fl_edges (se_var (pv 0)) (not_super rfl))) (SE.pk (se_ix (sp_var (pv 7)) (SE.pk se_int) rfl)) rfl) (fun _ _ => rfl)) (sae_cons (se_ix (sp_var (pv 7)) (SE.pk se_int) rfl) sae_nil rfl) rfl) rfl)) rfl) sb_nil) sb_nil) (sb_cons (ss_appO (se_var (pv 1)) (se_tup (sae_cons (se_var (pv 5)) (sae_cons (se_var (pv 6)) (sae_cons (se_var (pv 9)) sae_nil rfl) rfl) rfl)) rfl rfl rfl) (sb_cons (ss_putN (un9 hr.units) (se_var (pv 2)) (se_var (pv 8)) (se_bin oSub_ok (SE.pk (se_callB bLen_ok (by rfl) h.b_len (by rfl) (sa_cons (sp_var (pv 1)) sa_nil rfl) rfl (by decide) (by decide))) (SE.pk se_int)) rfl) sb_nil)))) sb_nil) sb_nil)) rfl) (sb_cons (ss_ret (se_getN (un9 hr.units) (se_var (pv 2)) (se_var (pv 3)) (fun _ _ => rfl))) sb_nil))))
theorem sc_Sameness_way_between : FnScope ["self", "one", "other", "came", "waiting", "at", "here", "edge", "near", "far", "way"] ["self", "one", "other"] (defScope (mthOf 9 (top 6))) := ⟨rfl, rfl, rfl, by decide +kernel, rfl, by decide +kernel, by decide +kernel⟩
theorem ok_Sameness_way_between (h : Fc P w K mg) : MthIn P w K mg base "Sameness" "way_between" 1 c_Sameness_way_between := by
    obtain ⟨fd, F⟩ := h.d_Sameness_way_between
    refine ⟨⟨fd, _, rf_fn (n := 11) (np := 3) (j := 0) (m := m_Sameness_way_between) F sc_Sameness_way_between rfl rfl (fun cdv A outer s H E hr tk pss => ?_), F.bindsN (fun _ _ _ _ _ _ us hl => match us, hl with | [_, _, _], _ => rfl)⟩⟩
    have sc := sc_Sameness_way_between
    exact (sb_cons (ss_set sc.nd rfl (by first | exact Or.inl rfl | exact Or.inr rfl) rfl (se_disp (sps_cons (se_var (pv 1)) se_non sps_nil) rfl rfl (fun z => by cases z) (by decide)) rfl) (sb_cons (ss_own sc.nd rfl (by first | exact Or.inl rfl | exact Or.inr rfl) rfl (sf_lst (sae_cons (se_var (pv 1)) sae_nil rfl)) rfl) (sb_cons (ss_set sc.nd rfl (by first | exact Or.inl rfl | exact Or.inr rfl) rfl se_int rfl) (sb_cons (ss_frz (i := 3) (ss_while pss (st_notInO (un1 hr.units) (se_var (pv 2)) (se_var (pv 3)) rfl) (sb_cons (ss_set sc.nd rfl (by first | exact Or.inl rfl | exact Or.inr rfl) rfl (se_ix (sp_var (pv 4)) (sp_var (pv 5)) rfl) rfl) (sb_cons (ss_aug sc.nd rfl (by first | exact Or.inl rfl | exact Or.inr rfl) rfl iAdd_ok se_int) (sb_cons (ss_for pss rfl (si_val md_p (se_fld h.fl_edges (se_var (pv 0)) (not_super rfl))) (sg_name (pg_name sc.nd rfl (by first | exact Or.inl rfl | exact Or.inr rfl))) (sb_cons (ss_for pss rfl (si_val md_p (se_tup (sae_cons (se_tup (sae_cons (se_ix (sp_var (pv 7)) (SE.pk se_int) rfl) (sae_cons (se_ix (sp_var (pv 7)) (SE.pk se_int) rfl) sae_nil rfl) rfl)) (sae_cons (se_tup (sae_cons (se_ix (sp_var (pv 7)) (SE.pk se_int) rfl) (sae_cons (se_ix (sp_var (pv 7)) (SE.pk se_int) rfl) sae_nil rfl) rfl)) sae_nil rfl) rfl))) (sg_tup rfl (sgs_cons (sg_name (pg_name sc.nd rfl (by first | exact Or.inl rfl | exact Or.inr rfl))) (sgs_cons (sg_name (pg_name sc.nd rfl (by first | exact Or.inl rfl | exact Or.inr rfl))) sgs_nil rfl) rfl) rfl rfl) (sb_cons (ss_frz (i := 3) (ss_if (PW.pt (sw_and (st_cmp (cEq_ok hr.units) (sp_var (pv 8)) (sp_var (pv 6)) rfl) (sw_and1 (st_notInO (un1 hr.units) (se_var (pv 9)) (se_var (pv 3)) rfl)))) (sb_cons (ss_frz (i := 3) (ss_putD (un1 hr.units) (se_var (pv 3)) (se_var (pv 9)) (se_tup (sae_cons (se_var (pv 7)) (sae_cons (se_var (pv 6)) sae_nil rfl) rfl)) rfl)) (sb_cons (ss_app (pv 4) (se_var (pv 9)) rfl rfl) sb_nil)) sb_nil)) sb_nil) rfl) sb_nil) rfl) sb_nil))))) (sb_cons (ss_own sc.nd rfl (by first | exact Or.inl rfl | exact Or.inr rfl) rfl (sf_lst sae_nil) rfl) (sb_cons (ss_set sc.nd rfl (by first | exact Or.inl rfl | exact Or.inr rfl) rfl (se_var (pv 2)) rfl) (sb_cons (ss_frz (i := 3) (ss_while pss (st_cmp cIsNot_ok (SE.pk (se_getO (un1 hr.units) (se_var (pv 3)) (se_var (pv 6)) (fun _ _ => rfl))) (SE.pk se_non) rfl) (sb_cons (ss_frz (i := 3) (ss_app (pv 10) (se_tup (sae_cons (se_ix (SE.pk (se_getO (un1 hr.units) (se_var (pv 3)) (se_var (pv 6)) (fun _ _ => rfl))) (SE.pk se_int) rfl) (sae_cons (se_var (pv 6)) sae_nil rfl) rfl)) rfl rfl)) (sb_cons (ss_frz (i := 3) (ss_set sc.nd rfl (by first | exact Or.inl rfl | exact Or.inr rfl) rfl (se_ix (SE.pk (se_getO (un1 hr.units) (se_var (pv 3)) (se_var (pv 6)) (fun _ _ => rfl))) (SE.pk se_int) rfl) rfl)) sb_nil)))) (sb_cons (ss_ret (se_fz (sf_rev (sp_var (pv 10))))) sb_nil))))))))
theorem sc_Sameness_steps_between : FnScope ["self", "one", "other", "rows", "numbers", "last", "edge", "behind", "number"] ["self", "one", "other"] (defScope (mthOf 10 (top 6))) := ⟨rfl, rfl, rfl, by decide +kernel, rfl, by decide +kernel, by decide +kernel⟩
theorem ok_Sameness_steps_between (h : Fc P w K mg) : MthIn P w K mg base "Sameness" "steps_between" 2 c_Sameness_steps_between := by
    obtain ⟨fd, F⟩ := h.d_Sameness_steps_between
    refine ⟨⟨fd, _, rf_fn (n := 9) (np := 3) (j := 1) (m := m_Sameness_steps_between) F sc_Sameness_steps_between rfl rfl (fun cdv A outer s H E hr tk pss => ?_), F.bindsN (fun _ _ _ _ _ _ us hl => match us, hl with | [_, _, _], _ => rfl)⟩⟩
    have sc := sc_Sameness_steps_between
    exact (sb_cons (ss_set sc.nd rfl (by first | exact Or.inl rfl | exact Or.inr rfl) rfl (se_nw (sf_lst sae_nil)) rfl) (sb_cons (ss_set sc.nd rfl (by first | exact Or.inl rfl | exact Or.inr rfl) rfl se_nwN rfl) (sb_cons (ss_set sc.nd rfl (by first | exact Or.inl rfl | exact Or.inr rfl) rfl se_non rfl) (sb_cons (ss_for pss rfl (si_val md_p (se_meth (mth_cons (MthIn.at (ok_Sameness_way_between h) h.mf_Sameness_way_between hr (by omega) rfl rfl rfl rfl rfl) mth_nil) tk (se_var (pv 0)) (sae_cons (se_var (pv 1)) (sae_cons (se_var (pv 2)) sae_nil rfl) rfl) rfl rfl)) (sg_tup rfl (sgs_cons (sg_name (pg_name sc.nd rfl (by first | exact Or.inl rfl | exact Or.inr rfl))) (sgs_cons (sg_name (pg_name sc.nd rfl (by first | exact Or.inl rfl | exact Or.inr rfl))) sgs_nil rfl) rfl) rfl rfl) (sb_cons (ss_set sc.nd rfl (by first | exact Or.inl rfl | exact Or.inr rfl) rfl (se_meth (mth_cons (MthIn.at (ok_Sameness_steps_to h) h.mf_Sameness_steps_to hr (by omega) rfl rfl rfl rfl rfl) mth_nil) tk (se_var (pv 0)) (sae_cons (se_var (pv 3)) (sae_cons (se_var (pv 4)) (sae_cons (se_var (pv 6)) sae_nil rfl) rfl) rfl) rfl rfl) rfl) (sb_cons (ss_if (st_cmp cIsNot_ok (sp_var (pv 5)) (SE.pk se_non) rfl) (sb_cons (ss_appO (se_var (pv 3)) (se_tup (sae_cons (se_var (pv 1)) (sae_cons (se_var (pv 7)) (sae_cons (se_tup (sae_cons (se_str (l := [99, 104, 97, 105, 110]) (by decide +kernel)) (sae_cons (se_var (pv 5)) (sae_cons (se_var (pv 8)) sae_nil rfl) rfl) rfl)) sae_nil rfl) rfl) rfl)) rfl rfl rfl) (sb_cons (ss_set sc.nd rfl (by first | exact Or.inl rfl | exact Or.inr rfl) rfl (se_bin oSub_ok (SE.pk (se_callB bLen_ok (by rfl) h.b_len (by rfl) (sa_cons (sp_var (pv 3)) sa_nil rfl) rfl (by decide) (by decide))) (SE.pk se_int)) rfl) sb_nil)) sb_nil) (sb_cons (ss_set sc.nd rfl (by first | exact Or.inl rfl | exact Or.inr rfl) rfl (se_var (pv 8)) rfl) sb_nil))) rfl) (sb_cons (ss_if (PW.pt (sw_and (st_cmp cIsNot_ok (sp_var (pv 5)) (SE.pk se_non) rfl) (sw_and1 (st_cmp (cNe_ok hr.units) (sp_var (pv 5)) (SE.pk (se_bin oSub_ok (SE.pk (se_callB bLen_ok (by rfl) h.b_len (by rfl) (sa_cons (sp_var (pv 3)) sa_nil rfl) rfl (by decide) (by decide))) (SE.pk se_int))) rfl)))) (sb_cons (ss_appO (se_var (pv 3)) (se_ix (sp_var (pv 3)) (sp_var (pv 5)) rfl) rfl rfl rfl) sb_nil) sb_nil) (sb_cons (ss_ret (se_callT bTuple_ok (by rfl) h.b_tuple (by rfl) (sa_cons (sp_var (pv 3)) sa_nil rfl) rfl (by decide) (by decide))) sb_nil))))))
theorem sc_Sameness___init__ : FnScope ["self", "things", "answers", "thing", "one", "other", "answer"] ["self", "things", "answers"] (defScope (mthOf 0 (top 6))) := ⟨rfl, rfl, rfl, by decide +kernel, rfl, by decide +kernel, by decide +kernel⟩
theorem sc_Sameness_twin : FnScope ["self", "other"] ["self"] (defScope (mthOf 5 (top 6))) := ⟨rfl, rfl, rfl, by decide +kernel, rfl, by decide +kernel, by decide +kernel⟩
theorem sc_Sameness_trial : FnScope ["self", "one", "other", "other_one", "edge", "rows", "pair"] ["self", "one", "other"] (defScope (mthOf 12 (top 6))) := ⟨rfl, rfl, rfl, by decide +kernel, rfl, by decide +kernel, by decide +kernel⟩
theorem sc_Sameness_tell : FnScope ["self", "one", "other", "answer", "changed", "steps"] ["self", "one", "other", "answer"] (defScope (mthOf 13 (top 6))) := ⟨rfl, rfl, rfl, by decide +kernel, rfl, by decide +kernel, by decide +kernel⟩
theorem ok_Sameness___init__ (h : Fc P w K mg) : ∀ n, IniD P w K mg base "Sameness" (3 + 2 * n) 2 (g_Sameness___init__ n 0) ∧ MthIn P w K mg base "Sameness" "twin" (3 + 2 * n) (g_Sameness___init__ n 1) ∧ MthIn P w K mg base "Sameness" "trial" (3 + 2 * n) (g_Sameness___init__ n 2) ∧ MthIn P w K mg base "Sameness" "tell" (3 + 2 * n) (g_Sameness___init__ n 3)
  | 0 => ⟨by
    obtain ⟨fd, dvs, F, l1, r1⟩ := h.d_Sameness___init__
    refine ⟨⟨fd, ["self", "things", "answers"], rf_fn (n := 7) (np := 3) (j := 2) (m := sNo) F sc_Sameness___init__ rfl rfl (fun cdv A outer s H E hr tk pss => ?_), fun miss hm => match miss, hm with
      | 0, _ => (F.binds1 (ps := ["self", "things", "answers"]) 3 2 (by intro z; subst z; cases l1) (by rw [l1]; rfl) (fun T kV doc pm an cdv ct us its e1 e2 => by
      rw [l1] at e2
      match us, e1, its, e2 with
      | [u0, u1, u2], _, [i0, i1], _ => exact ⟨_, rfl, rfl⟩)).elim fun ds z => ⟨dvs.drop 2, ds, z.2, z.1, fun H g => (r1 H g).drop 2⟩
      | 1, _ => (F.binds1 (ps := ["self", "things", "answers"]) 2 1 (by intro z; subst z; cases l1) (by rw [l1]; rfl) (fun T kV doc pm an cdv ct us its e1 e2 => by
      rw [l1] at e2
      match us, e1, its, e2 with
      | [u0, u1], _, [i0, i1], _ => exact ⟨_, rfl, rfl⟩)).elim fun ds z => ⟨dvs.drop 1, ds, z.2, z.1, fun H g => (r1 H g).drop 1⟩
      | 2, _ => (F.binds1 (ps := ["self", "things", "answers"]) 1 0 (by intro z; subst z; cases l1) (by rw [l1]; rfl) (fun T kV doc pm an cdv ct us its e1 e2 => by
      rw [l1] at e2
      match us, e1, its, e2 with
      | [u0], _, [i0, i1], _ => exact ⟨_, rfl, rfl⟩)).elim fun ds z => ⟨dvs.drop 0, ds, z.2, z.1, fun H g => (r1 H g).drop 0⟩
      | n + 3, hm => absurd hm (by omega)⟩⟩
    have sc := sc_Sameness___init__
    exact sb_no, by
    obtain ⟨fd, F⟩ := h.d_Sameness_twin
    refine ⟨⟨fd, _, rf_fn (n := 2) (np := 1) (j := 2) (m := sNo) F sc_Sameness_twin rfl rfl (fun cdv A outer s H E hr tk pss => ?_), F.bindsN (fun _ _ _ _ _ _ us hl => match us, hl with | [_], _ => rfl)⟩⟩
    have sc := sc_Sameness_twin
    exact sb_no, by
    obtain ⟨fd, F⟩ := h.d_Sameness_trial
    refine ⟨⟨fd, _, rf_fn (n := 7) (np := 3) (j := 2) (m := sNo) F sc_Sameness_trial rfl rfl (fun cdv A outer s H E hr tk pss => ?_), F.bindsN (fun _ _ _ _ _ _ us hl => match us, hl with | [_, _, _], _ => rfl)⟩⟩
    have sc := sc_Sameness_trial
    exact sb_no, by
    obtain ⟨fd, F⟩ := h.d_Sameness_tell
    refine ⟨⟨fd, _, rf_fn (n := 6) (np := 4) (j := 2) (m := sNo) F sc_Sameness_tell rfl rfl (fun cdv A outer s H E hr tk pss => ?_), F.bindsN (fun _ _ _ _ _ _ us hl => match us, hl with | [_, _, _, _], _ => rfl)⟩⟩
    have sc := sc_Sameness_tell
    exact sb_no⟩
  | n + 1 => by
    have self := ok_Sameness___init__ h n
    refine ⟨?_, ?_, ?_, ?_⟩
    · obtain ⟨fd, dvs, F, l1, r1⟩ := h.d_Sameness___init__
      refine ⟨⟨fd, ["self", "things", "answers"], rf_fn (n := 7) (np := 3) (j := 3 + 2 * n + 1) (m := m_Sameness___init__ (g_Sameness___init__ n)) F sc_Sameness___init__ rfl rfl (fun cdv A outer s H E hr tk pss => ?_), fun miss hm => match miss, hm with
        | 0, _ => (F.binds1 (ps := ["self", "things", "answers"]) 3 2 (by intro z; subst z; cases l1) (by rw [l1]; rfl) (fun T kV doc pm an cdv ct us its e1 e2 => by
        rw [l1] at e2
        match us, e1, its, e2 with
        | [u0, u1, u2], _, [i0, i1], _ => exact ⟨_, rfl, rfl⟩)).elim fun ds z => ⟨dvs.drop 2, ds, z.2, z.1, fun H g => (r1 H g).drop 2⟩
        | 1, _ => (F.binds1 (ps := ["self", "things", "answers"]) 2 1 (by intro z; subst z; cases l1) (by rw [l1]; rfl) (fun T kV doc pm an cdv ct us its e1 e2 => by
        rw [l1] at e2
        match us, e1, its, e2 with
        | [u0, u1], _, [i0, i1], _ => exact ⟨_, rfl, rfl⟩)).elim fun ds z => ⟨dvs.drop 1, ds, z.2, z.1, fun H g => (r1 H g).drop 1⟩
        | 2, _ => (F.binds1 (ps := ["self", "things", "answers"]) 1 0 (by intro z; subst z; cases l1) (by rw [l1]; rfl) (fun T kV doc pm an cdv ct us its e1 e2 => by
        rw [l1] at e2
        match us, e1, its, e2 with
        | [u0], _, [i0, i1], _ => exact ⟨_, rfl, rfl⟩)).elim fun ds z => ⟨dvs.drop 0, ds, z.2, z.1, fun H g => (r1 H g).drop 0⟩
        | n + 3, hm => absurd hm (by omega)⟩⟩
      have sc := sc_Sameness___init__
      exact (sb_cons (ss_fld h.fl_listed (se_var (pv 0)) (se_nw (sf_lst sae_nil)) rfl) (sb_cons (ss_fld h.fl_answered (se_var (pv 0)) (se_nw (sf_lst sae_nil)) rfl) (sb_cons (ss_fld h.fl_roots (se_var (pv 0)) (se_nw (sf_lst sae_nil)) rfl) (sb_cons (ss_fld h.fl_edges (se_var (pv 0)) (se_nw (sf_lst sae_nil)) rfl) (sb_cons (ss_for pss rfl (si_val md_p (se_var (pv 1))) (sg_name (pg_name sc.nd rfl (by first | exact Or.inl rfl | exact Or.inr rfl))) (sb_cons (ss_drop (se_meth (mth_cons (MthIn.at (ok_Sameness_add h) h.mf_Sameness_add hr (by omega) rfl rfl rfl rfl rfl) mth_nil) tk (se_var (pv 0)) (sae_cons (se_var (pv 3)) sae_nil rfl) rfl rfl) rfl) sb_nil) rfl) (sb_cons (ss_for pss rfl (si_val md_p (se_var (pv 2))) (sg_tup rfl (sgs_cons (sg_name (pg_name sc.nd rfl (by first | exact Or.inl rfl | exact Or.inr rfl))) (sgs_cons (sg_name (pg_name sc.nd rfl (by first | exact Or.inl rfl | exact Or.inr rfl))) (sgs_cons (sg_name (pg_name sc.nd rfl (by first | exact Or.inl rfl | exact Or.inr rfl))) sgs_nil rfl) rfl) rfl) rfl rfl) (sb_cons (ss_drop (se_meth (mth_cons (MthIn.at self.2.2.2 h.mf_Sameness_tell hr (by omega) rfl rfl rfl rfl rfl) mth_nil) tk (se_var (pv 0)) (sae_cons (se_var (pv 4)) (sae_cons (se_var (pv 5)) (sae_cons (se_var (pv 6)) sae_nil rfl) rfl) rfl) rfl rfl) rfl) sb_nil) rfl) sb_nil))))))
    · obtain ⟨fd, F⟩ := h.d_Sameness_twin
      refine ⟨⟨fd, _, rf_fn (n := 2) (np := 1) (j := 3 + 2 * n + 1) (m := m_Sameness_twin (g_Sameness___init__ n)) F sc_Sameness_twin rfl rfl (fun cdv A outer s H E hr tk pss => ?_), F.bindsN (fun _ _ _ _ _ _ us hl => match us, hl with | [_], _ => rfl)⟩⟩
      have sc := sc_Sameness_twin
      exact (sb_cons (ss_set sc.nd rfl (by first | exact Or.inl rfl | exact Or.inr rfl) rfl (se_makeD0 (IniD.mkC (miss := 2) self.1 h.mk_Sameness (by decide) hr (by omega) rfl rfl rfl rfl rfl) (by rfl) (by decide)) rfl) (sb_cons (ss_fld h.fl_listed (se_var (pv 1)) (se_nw (sf_callT fList_ok rfl h.b_list rfl (sa_cons (SE.pk (se_fld h.fl_listed (se_var (pv 0)) (not_super rfl))) sa_nil rfl) rfl (by decide) (by decide))) rfl) (sb_cons (ss_fld h.fl_answered (se_var (pv 1)) (se_nw (sf_callT fList_ok rfl h.b_list rfl (sa_cons (SE.pk (se_fld h.fl_answered (se_var (pv 0)) (not_super rfl))) sa_nil rfl) rfl (by decide) (by decide))) rfl) (sb_cons (ss_fld h.fl_roots (se_var (pv 1)) (se_nw (sf_callT fList_ok rfl h.b_list rfl (sa_cons (SE.pk (se_fld h.fl_roots (se_var (pv 0)) (not_super rfl))) sa_nil rfl) rfl (by decide) (by decide))) rfl) (sb_cons (ss_fld h.fl_edges (se_var (pv 1)) (se_nw (sf_callT fList_ok rfl h.b_list rfl (sa_cons (SE.pk (se_fld h.fl_edges (se_var (pv 0)) (not_super rfl))) sa_nil rfl) rfl (by decide) (by decide))) rfl) (sb_cons (ss_ret (se_var (pv 1))) sb_nil))))))
    · obtain ⟨fd, F⟩ := h.d_Sameness_trial
      refine ⟨⟨fd, _, rf_fn (n := 7) (np := 3) (j := 3 + 2 * n + 1) (m := m_Sameness_trial (g_Sameness___init__ n)) F sc_Sameness_trial rfl rfl (fun cdv A outer s H E hr tk pss => ?_), F.bindsN (fun _ _ _ _ _ _ us hl => match us, hl with | [_, _, _], _ => rfl)⟩⟩
      have sc := sc_Sameness_trial
      exact (sb_cons (ss_set sc.nd rfl (by first | exact Or.inl rfl | exact Or.inr rfl) rfl (se_meth0 (mth_cons (MthIn.at self.2.1 h.mf_Sameness_twin hr (by omega) rfl rfl rfl rfl rfl) mth_nil) tk (se_var (pv 0)) rfl) rfl) (sb_cons (ss_set sc.nd rfl (by first | exact Or.inl rfl | exact Or.inr rfl) rfl (se_meth (mth_cons (MthIn.at (ok_Sameness_unite h) h.mf_Sameness_unite hr (by omega) rfl rfl rfl rfl rfl) mth_nil) tk (se_var (pv 3)) (sae_cons (se_var (pv 1)) (sae_cons (se_var (pv 2)) (sae_cons (se_tup (sae_cons (se_str (l := [97, 115, 107, 101, 100]) (by decide +kernel)) (sae_cons (se_callB bLen_ok (by rfl) h.b_len (by rfl) (sa_cons (SE.pk (se_fld h.fl_answered (se_var (pv 0)) (not_super rfl))) sa_nil rfl) rfl (by decide) (by decide)) sae_nil rfl) rfl)) sae_nil rfl) rfl) rfl) rfl rfl) rfl) (sb_cons (ss_appO (se_fld h.fl_answered (se_var (pv 3)) (not_super rfl)) (se_tup (sae_cons (se_var (pv 1)) (sae_cons (se_var (pv 2)) (sae_cons se_int sae_nil rfl) rfl) rfl)) rfl rfl rfl) (sb_cons (ss_if (st_cmp cIsNot_ok (sp_var (pv 4)) (SE.pk se_non) rfl) (sb_cons (ss_set sc.nd rfl (by first | exact Or.inl rfl | exact Or.inr rfl) rfl (se_nw (sf_lst sae_nil)) rfl) (sb_cons (ss_drop (se_meth (mth_cons (MthIn.at (ok_Sameness_steps_to h) h.mf_Sameness_steps_to hr (by omega) rfl rfl rfl rfl rfl) mth_nil) tk (se_var (pv 3)) (sae_cons (se_var (pv 5)) (sae_cons se_nwN (sae_cons (se_var (pv 4)) sae_nil rfl) rfl) rfl) rfl rfl) rfl) (sb_cons (ss_ret (se_tup (sae_cons (se_var (pv 3)) (sae_cons (se_callT bTuple_ok (by rfl) h.b_tuple (by rfl) (sa_cons (sp_var (pv 5)) sa_nil rfl) rfl (by decide) (by decide)) sae_nil rfl) rfl))) sb_nil))) sb_nil) (sb_cons (ss_set sc.nd rfl (by first | exact Or.inl rfl | exact Or.inr rfl) rfl (se_meth0 (mth_cons (MthIn.at (ok_Sameness_broken h) h.mf_Sameness_broken hr (by omega) rfl rfl rfl rfl rfl) mth_nil) tk (se_var (pv 3)) rfl) rfl) (sb_cons (ss_if (st_cmp cIsNot_ok (sp_var (pv 6)) (SE.pk se_non) rfl) (sb_cons (ss_ret (se_tup (sae_cons (se_var (pv 3)) (sae_cons (se_meth (mth_cons (MthIn.at (ok_Sameness_steps_between h) h.mf_Sameness_steps_between hr (by omega) rfl rfl rfl rfl rfl) mth_nil) tk (se_var (pv 3)) (sae_cons (se_ix (sp_var (pv 6)) (SE.pk se_int) rfl) (sae_cons (se_ix (sp_var (pv 6)) (SE.pk se_int) rfl) sae_nil rfl) rfl) rfl rfl) sae_nil rfl) rfl))) sb_nil) sb_nil) (sb_cons (ss_ret (se_tup (sae_cons (se_var (pv 3)) (sae_cons se_non sae_nil rfl) rfl))) sb_nil)))))))
    · obtain ⟨fd, F⟩ := h.d_Sameness_tell
      refine ⟨⟨fd, _, rf_fn (n := 6) (np := 4) (j := 3 + 2 * n + 1) (m := m_Sameness_tell (g_Sameness___init__ n)) F sc_Sameness_tell rfl rfl (fun cdv A outer s H E hr tk pss => ?_), F.bindsN (fun _ _ _ _ _ _ us hl => match us, hl with | [_, _, _, _], _ => rfl)⟩⟩
      have sc := sc_Sameness_tell
      exact (sb_cons (ss_if (st_cmp (cEq_ok hr.units) (sp_var (pv 3)) (SE.pk se_int) rfl) (sb_cons (ss_if (st_truth (SE.pk (se_meth (mth_cons (MthIn.at (ok_Sameness_is_same h) h.mf_Sameness_is_same hr (by omega) rfl rfl rfl rfl rfl) mth_nil) tk (se_var (pv 0)) (sae_cons (se_var (pv 1)) (sae_cons (se_var (pv 2)) sae_nil rfl) rfl) rfl rfl)) rfl) (sb_cons (ss_raise1 (k := 0) (h.r_Clash _) rfl tk (hr.toRoom.mono (by first | decide | omega)) (se_meth (mth_cons (MthIn.at (ok_Sameness_steps_between h) h.mf_Sameness_steps_between hr (by omega) rfl rfl rfl rfl rfl) mth_nil) tk (se_var (pv 0)) (sae_cons (se_var (pv 1)) (sae_cons (se_var (pv 2)) sae_nil rfl) rfl) rfl rfl) rfl (by rfl) (by decide)) sb_nil) sb_nil) (sb_cons (ss_appO (se_fld h.fl_answered (se_var (pv 0)) (not_super rfl)) (se_tup (sae_cons (se_var (pv 1)) (sae_cons (se_var (pv 2)) (sae_cons se_int sae_nil rfl) rfl) rfl)) rfl rfl rfl) sb_nil)) (sb_cons (ss_tg rfl rfl rfl (se_meth (mth_cons (MthIn.at self.2.2.1 h.mf_Sameness_trial hr (by omega) rfl rfl rfl rfl rfl) mth_nil) tk (se_var (pv 0)) (sae_cons (se_var (pv 1)) (sae_cons (se_var (pv 2)) sae_nil rfl) rfl) rfl rfl) (sg_tup rfl (sgs_cons (sg_name (pg_name sc.nd rfl (by first | exact Or.inl rfl | exact Or.inr rfl))) (sgs_cons (sg_name (pg_name sc.nd rfl (by first | exact Or.inl rfl | exact Or.inr rfl))) sgs_nil rfl) rfl) rfl rfl)) (sb_cons (ss_if (st_cmp cIsNot_ok (sp_var (pv 5)) (SE.pk se_non) rfl) (sb_cons (ss_raise1 (k := 0) (h.r_Clash _) rfl tk (hr.toRoom.mono (by first | decide | omega)) (se_var (pv 5)) rfl (by rfl) (by decide)) sb_nil) sb_nil) (sb_cons (ss_fld h.fl_answered (se_var (pv 0)) (se_fld h.fl_answered (se_var (pv 4)) (not_super rfl)) rfl) (sb_cons (ss_fld h.fl_roots (se_var (pv 0)) (se_fld h.fl_roots (se_var (pv 4)) (not_super rfl)) rfl) (sb_cons (ss_fld h.fl_edges (se_var (pv 0)) (se_fld h.fl_edges (se_var (pv 4)) (not_super rfl)) rfl) sb_nil)))))) (sb_cons (ss_ret (se_callB bLen_ok (by rfl) h.b_len (by rfl) (sa_cons (SE.pk (se_fld h.fl_answered (se_var (pv 0)) (not_super rfl))) sa_nil rfl) rfl (by decide) (by decide))) sb_nil))
theorem sc_Sameness_classes : FnScope ["self", "found", "thing", "root"] ["self"] (defScope (mthOf 16 (top 6))) := ⟨rfl, rfl, rfl, by decide +kernel, rfl, by decide +kernel, by decide +kernel⟩
theorem ok_Sameness_classes (h : Fc P w K mg) : MthIn P w K mg base "Sameness" "classes" 2 c_Sameness_classes := by
    obtain ⟨fd, F⟩ := h.d_Sameness_classes
    refine ⟨⟨fd, _, rf_fn (n := 4) (np := 1) (j := 1) (m := m_Sameness_classes) F sc_Sameness_classes rfl rfl (fun cdv A outer s H E hr tk pss => ?_), F.bindsN (fun _ _ _ _ _ _ us hl => match us, hl with | [_], _ => rfl)⟩⟩
    have sc := sc_Sameness_classes
    exact (sb_cons (ss_set sc.nd rfl (by first | exact Or.inl rfl | exact Or.inr rfl) rfl se_nwK rfl) (sb_cons (ss_for pss rfl (si_rng1 md_p (by rfl) h.b_range (SAE.q (sae_cons (se_callB bLen_ok (by rfl) h.b_len (by rfl) (sa_cons (SE.pk (se_fld h.fl_listed (se_var (pv 0)) (not_super rfl))) sa_nil rfl) rfl (by decide) (by decide)) sae_nil rfl)) rfl) (sg_name (pg_name sc.nd rfl (by first | exact Or.inl rfl | exact Or.inr rfl))) (sb_cons (ss_appO (se_setK (se_var (pv 1)) (se_meth (mth_cons (MthIn.at (ok_Sameness_root_of h) h.mf_Sameness_root_of hr (by omega) rfl rfl rfl rfl rfl) mth_nil) tk (se_var (pv 0)) (sae_cons (se_var (pv 2)) sae_nil rfl) rfl rfl) (se_nw (sf_lst sae_nil)) rfl rfl rfl rfl) (se_var (pv 2)) rfl rfl rfl) sb_nil) rfl) (sb_cons (ss_ret (se_callT bTuple_ok (by rfl) h.b_tuple (by rfl) (sa_cons (SE.pk (se_fz (sf_lc rfl sc.nd (si_val md_e (SE.pk (se_fz (sf_srtI (by rfl) (by rfl) h.b_sorted (by rfl) (by decide) (by decide) (se_var (pv 1)) rfl)))) (blkOk_by (own := [("root", 3)]) (by rfl)) (fun _ _ _ _ _ => (sg_name (pg_name sc.nd rfl (by first | exact Or.inl rfl | exact Or.inr rfl)))) (fun _ _ _ _ _ => sts_nil) (fun _ _ _ _ _ => (se_callT bTuple_ok (by rfl) h.b_tuple (by rfl) (sa_cons (SE.pk (se_getO (un1 hr.units) (se_var (pv 1)) (se_var (pv 3)) (fun _ _ => rfl))) sa_nil rfl) rfl (by decide) (by decide))) (by decide) rfl))) sa_nil rfl) rfl (by decide) (by decide))) sb_nil)))
theorem sc__law_classes : FnScope ["_law_rows", "_law_many", "_law_found", "_law_one_here", "_law_same", "_law_other", "_law_row"] ["_law_rows", "_law_many"] (defScope (top 20)) := ⟨rfl, rfl, rfl, by decide +kernel, rfl, by decide +kernel, by decide +kernel⟩
theorem ok__law_classes (h : Fc P w K mg) : FnIn P w K mg base "_law_classes" 1 c__law_classes := by
    obtain ⟨f, fd, F, hm⟩ := h.d__law_classes
    refine ⟨f, fd, _, rf_fn (n := 7) (np := 2) (j := 0) (m := m__law_classes) F sc__law_classes rfl rfl (fun cdv A outer s H E hr tk pss => ?_), hm, F.kp, F.bindsN (fun _ _ _ _ _ _ us hl => match us, hl with | [_, _], _ => rfl)⟩
    have sc := sc__law_classes
    exact (sb_cons (ss_own sc.nd rfl (by first | exact Or.inl rfl | exact Or.inr rfl) rfl (sf_lst sae_nil) rfl) (sb_cons (ss_for pss rfl (si_rng1 md_p (by rfl) h.b_range (SAE.q (sae_cons (se_var (pv 1)) sae_nil rfl)) rfl) (sg_name (pg_name sc.nd rfl (by first | exact Or.inl rfl | exact Or.inr rfl))) (sb_cons (by first | exact ss_setLc (ps_lc rfl sc.nd rfl rfl rfl rfl rfl (si_rng1 md_e (by rfl) h.b_range (SA.q (sa_cons (sp_var (pv 1)) sa_nil rfl)) rfl) (blkOk_by (own := [("_law_other", 5)]) (by rfl)) (fun _ _ _ _ _ => (sg_name (pg_name sc.nd rfl (by first | exact Or.inl rfl | exact Or.inr rfl)))) (fun _ _ _ _ _ => (sts_one (st_truth (SE.pk (se_callB (bAll_ok rfl) (by rfl) h.b_all (by rfl) (sa_cons (SE.pk (se_fz (sf_lc rfl sc.nd (si_val md_e (sp_var (pv 0))) (blkOk_by (own := [("_law_row", 6)]) (by rfl)) (fun _ _ _ _ _ => (sg_name (pg_name sc.nd rfl (by first | exact Or.inl rfl | exact Or.inr rfl)))) (fun _ _ _ _ _ => sts_nil) (fun _ _ _ _ _ => (se_cmp (cEq_ok hr.units) (SE.pk (se_ix (sp_var (pv 6)) (sp_var (pv 3)) rfl)) (SE.pk (se_ix (sp_var (pv 6)) (sp_var (pv 5)) rfl)) rfl)) (by decide) rfl))) sa_nil rfl) rfl (by decide) (by decide))) rfl))) (fun _ _ _ _ _ => (se_var (pv 5))) (by decide) rfl) | exact ss_setS sc.nd rfl (by first | exact Or.inl rfl | exact Or.inr rfl) rfl (se_fz (sf_lc rfl sc.nd (si_rng1 md_e (by rfl) h.b_range (SA.q (sa_cons (sp_var (pv 1)) sa_nil rfl)) rfl) (blkOk_by (own := [("_law_other", 5)]) (by rfl)) (fun _ _ _ _ _ => (sg_name (pg_name sc.nd rfl (by first | exact Or.inl rfl | exact Or.inr rfl)))) (fun _ _ _ _ _ => (sts_one (st_truth (SE.pk (se_callB (bAll_ok rfl) (by rfl) h.b_all (by rfl) (sa_cons (SE.pk (se_fz (sf_lc rfl sc.nd (si_val md_e (sp_var (pv 0))) (blkOk_by (own := [("_law_row", 6)]) (by rfl)) (fun _ _ _ _ _ => (sg_name (pg_name sc.nd rfl (by first | exact Or.inl rfl | exact Or.inr rfl)))) (fun _ _ _ _ _ => sts_nil) (fun _ _ _ _ _ => (se_cmp (cEq_ok hr.units) (SE.pk (se_ix (sp_var (pv 6)) (sp_var (pv 3)) rfl)) (SE.pk (se_ix (sp_var (pv 6)) (sp_var (pv 5)) rfl)) rfl)) (by decide) rfl))) sa_nil rfl) rfl (by decide) (by decide))) rfl))) (fun _ _ _ _ _ => (se_var (pv 5))) (by decide) rfl)) rfl) (sb_cons (ss_if (st_cmp (cEq_ok hr.units) (SE.pk (se_ix (sp_var (pv 4)) (SE.pk se_int) rfl)) (sp_var (pv 3)) rfl) (sb_cons (ss_app (pv 2) (se_callT bTuple_ok (by rfl) h.b_tuple (by rfl) (sa_cons (sp_var (pv 4)) sa_nil rfl) rfl (by decide) (by decide)) rfl rfl) sb_nil) sb_nil) sb_nil)) rfl) (sb_cons (ss_ret (se_callT bTuple_ok (by rfl) h.b_tuple (by rfl) (sa_cons (sp_var (pv 2)) sa_nil rfl) rfl (by decide) (by decide))) sb_nil)))
theorem sc__law_is_bool : FnScope ["_law_told", "_law_due"] ["_law_told", "_law_due"] (defScope (top 19)) := ⟨rfl, rfl, rfl, by decide +kernel, rfl, by decide +kernel, by decide +kernel⟩
theorem ok__law_is_bool (h : Fc P w K mg) : FnIn P w K mg base "_law_is_bool" 1 c__law_is_bool := by
    obtain ⟨f, fd, F, hm⟩ := h.d__law_is_bool
    refine ⟨f, fd, _, rf_fn (n := 2) (np := 2) (j := 0) (m := m__law_is_bool) F sc__law_is_bool rfl rfl (fun cdv A outer s H E hr tk pss => ?_), hm, F.kp, F.bindsN (fun _ _ _ _ _ _ us hl => match us, hl with | [_, _], _ => rfl)⟩
    have sc := sc__law_is_bool
    exact (sb_cons (ss_ret (se_and (se_callB bIsI_ok (by rfl) h.b_isinstance (by rfl) (sa_cons (sp_var (pv 0)) (sa_cons (SE.pk (se_ty rfl h.b_bool rfl (by decide) (by decide))) sa_nil rfl) rfl) rfl (by decide) (by decide)) (se_one (se_cmp (cEq_ok hr.units) (sp_var (pv 0)) (sp_var (pv 1)) rfl)))) sb_nil)
theorem sc_Sameness_may_be_same : FnScope ["self", "one", "other"] ["self", "one", "other"] (defScope (mthOf 15 (top 6))) := ⟨rfl, rfl, rfl, by decide +kernel, rfl, by decide +kernel, by decide +kernel⟩
theorem ok_Sameness_may_be_same (h : Fc P w K mg) : MthIn P w K mg base "Sameness" "may_be_same" 24 c_Sameness_may_be_same := by
    obtain ⟨fd, F⟩ := h.d_Sameness_may_be_same
    refine ⟨⟨fd, _, rf_fn (n := 3) (np := 3) (j := 23) (m := m_Sameness_may_be_same) F sc_Sameness_may_be_same rfl rfl (fun cdv A outer s H E hr tk pss => ?_), F.bindsN (fun _ _ _ _ _ _ us hl => match us, hl with | [_, _, _], _ => rfl)⟩⟩
    have sc := sc_Sameness_may_be_same
    exact (sb_cons (ss_ret (se_cmp cIs_ok (SE.pk (se_ix (SE.pk (se_meth (mth_cons (MthIn.at ((ok_Sameness___init__ h 10).2.2.1) h.mf_Sameness_trial hr (by omega) rfl rfl rfl rfl rfl) mth_nil) tk (se_var (pv 0)) (sae_cons (se_var (pv 1)) (sae_cons (se_var (pv 2)) sae_nil rfl) rfl) rfl rfl)) (SE.pk se_int) rfl)) (SE.pk se_non) rfl)) sb_nil)
theorem sc__law_state_right : FnScope ["_law_sameness", "_law_rows", "_law_many", "_law_one_here", "_law_other", "_law_together", "_law_row"] ["_law_sameness", "_law_rows", "_law_many"] (defScope (top 21)) := ⟨rfl, rfl, rfl, by decide +kernel, rfl, by decide +kernel, by decide +kernel⟩
theorem ok__law_state_right (h : Fc P w K mg) : FnIn P w K mg base "_law_state_right" 25 c__law_state_right := by
    obtain ⟨f, fd, F, hm⟩ := h.d__law_state_right
    refine ⟨f, fd, _, rf_fn (n := 7) (np := 3) (j := 24) (m := m__law_state_right) F sc__law_state_right rfl rfl (fun cdv A outer s H E hr tk pss => ?_), hm, F.kp, F.bindsN (fun _ _ _ _ _ _ us hl => match us, hl with | [_, _, _], _ => rfl)⟩
    have sc := sc__law_state_right
    exact (sb_cons (ss_for pss rfl (si_rng1 md_p (by rfl) h.b_range (SAE.q (sae_cons (se_var (pv 2)) sae_nil rfl)) rfl) (sg_name (pg_name sc.nd rfl (by first | exact Or.inl rfl | exact Or.inr rfl))) (sb_cons (ss_for pss rfl (si_rng1 md_p (by rfl) h.b_range (SAE.q (sae_cons (se_bin oAdd_ok (sp_var (pv 3)) (SE.pk se_int)) sae_nil rfl)) rfl) (sg_name (pg_name sc.nd rfl (by first | exact Or.inl rfl | exact Or.inr rfl))) (sb_cons (by first | exact ss_setLc (ps_lc rfl sc.nd rfl rfl rfl rfl rfl (si_val md_e (sp_var (pv 1))) (blkOk_by (own := [("_law_row", 6)]) (by rfl)) (fun _ _ _ _ _ => (sg_name (pg_name sc.nd rfl (by first | exact Or.inl rfl | exact Or.inr rfl)))) (fun _ _ _ _ _ => sts_nil) (fun _ _ _ _ _ => (se_cmp (cEq_ok hr.units) (SE.pk (se_ix (sp_var (pv 6)) (sp_var (pv 3)) rfl)) (SE.pk (se_ix (sp_var (pv 6)) (sp_var (pv 4)) rfl)) rfl)) (by decide) rfl) | exact ss_setS sc.nd rfl (by first | exact Or.inl rfl | exact Or.inr rfl) rfl (se_fz (sf_lc rfl sc.nd (si_val md_e (sp_var (pv 1))) (blkOk_by (own := [("_law_row", 6)]) (by rfl)) (fun _ _ _ _ _ => (sg_name (pg_name sc.nd rfl (by first | exact Or.inl rfl | exact Or.inr rfl)))) (fun _ _ _ _ _ => sts_nil) (fun _ _ _ _ _ => (se_cmp (cEq_ok hr.units) (SE.pk (se_ix (sp_var (pv 6)) (sp_var (pv 3)) rfl)) (SE.pk (se_ix (sp_var (pv 6)) (sp_var (pv 4)) rfl)) rfl)) (by decide) rfl)) rfl) (sb_cons (ss_if (st_not (st_truth (SE.pk (se_call (FnIn.at (ok__law_is_bool h) hr (by omega) rfl rfl rfl rfl rfl) (by rfl) tk (sae_cons (se_meth (mth_cons (MthIn.at (ok_Sameness_is_same h) h.mf_Sameness_is_same hr (by omega) rfl rfl rfl rfl rfl) mth_nil) tk (se_var (pv 0)) (sae_cons (se_var (pv 3)) (sae_cons (se_var (pv 4)) sae_nil rfl) rfl) rfl rfl) (sae_cons (se_callB (bAll_ok rfl) (by rfl) h.b_all (by rfl) (sa_cons (sp_var (pv 5)) sa_nil rfl) rfl (by decide) (by decide)) sae_nil rfl) rfl) rfl (by decide))) rfl)) (sb_cons (ss_ret se_bl) sb_nil) sb_nil) (sb_cons (ss_if (st_not (st_truth (SE.pk (se_call (FnIn.at (ok__law_is_bool h) hr (by omega) rfl rfl rfl rfl rfl) (by rfl) tk (sae_cons (se_meth (mth_cons (MthIn.at (ok_Sameness_may_be_same h) h.mf_Sameness_may_be_same hr (by omega) rfl rfl rfl rfl rfl) mth_nil) tk (se_var (pv 0)) (sae_cons (se_var (pv 4)) (sae_cons (se_var (pv 3)) sae_nil rfl) rfl) rfl rfl) (sae_cons (se_callB (bAny_ok rfl) (by rfl) h.b_any (by rfl) (sa_cons (sp_var (pv 5)) sa_nil rfl) rfl (by decide) (by decide)) sae_nil rfl) rfl) rfl (by decide))) rfl)) (sb_cons (ss_ret se_bl) sb_nil) sb_nil) sb_nil))) rfl) sb_nil) rfl) (sb_cons (ss_ret (se_cmp (cEq_ok hr.units) (SE.pk (se_callB (bRepr_ok (un64 hr.units) hr.gd) (by rfl) h.b_repr (by rfl) (sa_cons (SE.pk (se_meth0 (mth_cons (MthIn.at (ok_Sameness_classes h) h.mf_Sameness_classes hr (by omega) rfl rfl rfl rfl rfl) mth_nil) tk (se_var (pv 0)) rfl)) sa_nil rfl) rfl (by decide) (by decide))) (SE.pk (se_callB (bRepr_ok (un64 hr.units) hr.gd) (by rfl) h.b_repr (by rfl) (sa_cons (SE.pk (se_call (FnIn.at (ok__law_classes h) hr (by omega) rfl rfl rfl rfl rfl) (by rfl) tk (sae_cons (se_var (pv 1)) (sae_cons (se_var (pv 2)) sae_nil rfl) rfl) rfl (by decide))) sa_nil rfl) rfl (by decide) (by decide))) rfl)) sb_nil))
theorem sc__law_like : FnScope ["_law_things_here", "_law_one_here", "_law_found", "_law_kind", "_law_parts", "_law_k"] ["_law_things_here", "_law_one_here"] (defScope (top 14)) := ⟨rfl, rfl, rfl, by decide +kernel, rfl, by decide +kernel, by decide +kernel⟩
theorem ok__law_like (h : Fc P w K mg) : FnIn P w K mg base "_law_like" 1 c__law_like := by
    obtain ⟨f, fd, F, hm⟩ := h.d__law_like
    refine ⟨f, fd, _, rf_fn (n := 6) (np := 2) (j := 0) (m := m__law_like) F sc__law_like rfl rfl (fun cdv A outer s H E hr tk pss => ?_), hm, F.kp, F.bindsN (fun _ _ _ _ _ _ us hl => match us, hl with | [_, _], _ => rfl)⟩
    have sc := sc__law_like
    exact (sb_cons (ss_pv3 (i := 2) (j := 3) (l := 4) rfl sc.nd rfl rfl rfl (by decide) (by decide) (by decide) rfl rfl rfl (sv_o (sf_lst sae_nil)) (sv_v (se_ix (SE.pk (se_ix (sp_var (pv 0)) (sp_var (pv 1)) rfl)) (SE.pk se_int) rfl)) (sv_v (se_ix (SE.pk (se_ix (sp_var (pv 0)) (sp_var (pv 1)) rfl)) (SE.pk (se_neg se_int)) rfl)) rfl rfl rfl rfl) (sb_cons (ss_for pss rfl (si_rng1 md_p (by rfl) h.b_range (SAE.q (sae_cons (se_callB bLen_ok (by rfl) h.b_len (by rfl) (sa_cons (sp_var (pv 0)) sa_nil rfl) rfl (by decide) (by decide)) sae_nil rfl)) rfl) (sg_name (pg_name sc.nd rfl (by first | exact Or.inl rfl | exact Or.inr rfl))) (sb_cons (ss_if (PW.pt (sw_and (st_cmp (cEq_ok hr.units) (SE.pk (se_ix (SE.pk (se_ix (sp_var (pv 0)) (sp_var (pv 5)) rfl)) (SE.pk se_int) rfl)) (sp_var (pv 3)) rfl) (sw_and1 (PW.pt (sw_or (st_cmp (cNe_ok hr.units) (sp_var (pv 3)) (SE.pk (se_str (l := [116, 117, 112, 108, 101]) (by decide +kernel))) rfl) (sw_or1 (st_cmp (cEq_ok hr.units) (SE.pk (se_callB bLen_ok (by rfl) h.b_len (by rfl) (sa_cons (SE.pk (se_ix (SE.pk (se_ix (sp_var (pv 0)) (sp_var (pv 5)) rfl)) (SE.pk se_int) rfl)) sa_nil rfl) rfl (by decide) (by decide))) (SE.pk (se_callB bLen_ok (by rfl) h.b_len (by rfl) (sa_cons (sp_var (pv 4)) sa_nil rfl) rfl (by decide) (by decide))) rfl))))))) (sb_cons (ss_app (pv 2) (se_var (pv 5)) rfl rfl) sb_nil) sb_nil) sb_nil) rfl) (sb_cons (ss_frz (i := 2) (ss_ret (se_var (pv 2)))) sb_nil)))
theorem sc__law_pair : FnScope ["_law_deck_here", "_law_things_here", "_law_one_here"] ["_law_deck_here", "_law_things_here"] (defScope (top 15)) := ⟨rfl, rfl, rfl, by decide +kernel, rfl, by decide +kernel, by decide +kernel⟩
theorem ok__law_pair (h : Fc P w K mg) : FnIn P w K mg base "_law_pair" 3 c__law_pair := by
    obtain ⟨f, fd, F, hm⟩ := h.d__law_pair
    refine ⟨f, fd, _, rf_fn (n := 3) (np := 2) (j := 2) (m := m__law_pair) F sc__law_pair rfl rfl (fun cdv A outer s H E hr tk pss => ?_), hm, F.kp, F.bindsN (fun _ _ _ _ _ _ us hl => match us, hl with | [_, _], _ => rfl)⟩
    have sc := sc__law_pair
    exact (sb_cons (ss_set sc.nd rfl (by first | exact Or.inl rfl | exact Or.inr rfl) rfl (se_call (FnIn.at (ok__law_draw h) hr (by omega) rfl rfl rfl rfl rfl) (by rfl) tk (sae_cons (se_var (pv 0)) (sae_cons (se_callB bLen_ok (by rfl) h.b_len (by rfl) (sa_cons (sp_var (pv 1)) sa_nil rfl) rfl (by decide) (by decide)) sae_nil rfl) rfl) rfl (by decide)) rfl) (sb_cons (ss_if (st_cmp cGt_ok (SE.pk (se_call (FnIn.at (ok__law_draw h) hr (by omega) rfl rfl rfl rfl rfl) (by rfl) tk (sae_cons (se_var (pv 0)) (sae_cons se_int sae_nil rfl) rfl) rfl (by decide))) (SE.pk se_int) rfl) (sb_cons (ss_ret (se_tup (sae_cons (se_var (pv 2)) (sae_cons (se_call (FnIn.at (ok__law_one h) hr (by omega) rfl rfl rfl rfl rfl) (by rfl) tk (sae_cons (se_var (pv 0)) (sae_cons (se_call (FnIn.at (ok__law_like h) hr (by omega) rfl rfl rfl rfl rfl) (by rfl) tk (sae_cons (se_var (pv 1)) (sae_cons (se_var (pv 2)) sae_nil rfl) rfl) rfl (by decide)) sae_nil rfl) rfl) rfl (by decide)) sae_nil rfl) rfl))) sb_nil) sb_nil) (sb_cons (ss_ret (se_tup (sae_cons (se_var (pv 2)) (sae_cons (se_call (FnIn.at (ok__law_draw h) hr (by omega) rfl rfl rfl rfl rfl) (by rfl) tk (sae_cons (se_var (pv 0)) (sae_cons (se_callB bLen_ok (by rfl) h.b_len (by rfl) (sa_cons (sp_var (pv 1)) sa_nil rfl) rfl (by decide) (by decide)) sae_nil rfl) rfl) rfl (by decide)) sae_nil rfl) rfl))) sb_nil)))
theorem sc__law_divisions : FnScope ["_law_many", "_law_rows", "_law_k", "_law_longer", "_law_row", "_law_number"] ["_law_many"] (defScope (top 17)) := ⟨rfl, rfl, rfl, by decide +kernel, rfl, by decide +kernel, by decide +kernel⟩
theorem ok__law_divisions (h : Fc P w K mg) : FnIn P w K mg base "_law_divisions" 1 c__law_divisions := by
    obtain ⟨f, fd, F, hm⟩ := h.d__law_divisions
    refine ⟨f, fd, _, rf_fn (n := 6) (np := 1) (j := 0) (m := m__law_divisions) F sc__law_divisions rfl rfl (fun cdv A outer s H E hr tk pss => ?_), hm, F.kp, F.bindsN (fun _ _ _ _ _ _ us hl => match us, hl with | [_], _ => rfl)⟩
    have sc := sc__law_divisions
    exact (sb_cons (ss_set sc.nd rfl (by first | exact Or.inl rfl | exact Or.inr rfl) rfl (se_fz (sf_lst (sae_cons (se_fz (sf_lst sae_nil)) sae_nil rfl))) rfl) (sb_cons (ss_for pss rfl (si_rng1 md_p (by rfl) h.b_range (SAE.q (sae_cons (se_var (pv 0)) sae_nil rfl)) rfl) (sg_name (pg_name sc.nd rfl (by first | exact Or.inl rfl | exact Or.inr rfl))) (sb_cons (ss_own sc.nd rfl (by first | exact Or.inl rfl | exact Or.inr rfl) rfl (sf_lst sae_nil) rfl) (sb_cons (ss_for pss rfl (si_val md_p (se_var (pv 1))) (sg_name (pg_name sc.nd rfl (by first | exact Or.inl rfl | exact Or.inr rfl))) (sb_cons (ss_ext (pv 3) (se_fz (sf_lc rfl sc.nd (si_rng1 md_e (by rfl) h.b_range (SA.q (sa_cons (SE.pk (se_bin oAdd_ok (SE.pk (se_callB (bMaxI_ok (by rfl)) (by rfl) h.b_max (by rfl) (sa_cons (SE.pk (se_bin oAdd_ok (sp_var (pv 4)) (SE.pk (se_fz (sf_lst (sae_cons (se_neg se_int) sae_nil rfl)))))) sa_nil rfl) rfl (by decide) (by decide))) (SE.pk se_int))) sa_nil rfl)) rfl) (blkOk_by (own := [("_law_number", 5)]) (by rfl)) (fun _ _ _ _ _ => (sg_name (pg_name sc.nd rfl (by first | exact Or.inl rfl | exact Or.inr rfl)))) (fun _ _ _ _ _ => sts_nil) (fun _ _ _ _ _ => (se_bin oAdd_ok (sp_var (pv 4)) (SE.pk (se_fz (sf_lst (sae_cons (se_var (pv 5)) sae_nil rfl)))))) (by decide) rfl)) rfl rfl) sb_nil) rfl) (sb_cons (ss_frz (i := 3) (ss_set sc.nd rfl (by first | exact Or.inl rfl | exact Or.inr rfl) rfl (se_var (pv 3)) rfl)) sb_nil))) rfl) (sb_cons (ss_ret (se_var (pv 1))) sb_nil)))
theorem sc__law_can_be_one : FnScope ["_law_things_here", "_law_one_here", "_law_other", "_law_left", "_law_right"] ["_law_things_here", "_law_one_here", "_law_other"] (defScope (top 16)) := ⟨rfl, rfl, rfl, by decide +kernel, rfl, by decide +kernel, by decide +kernel⟩
theorem ok__law_can_be_one (h : Fc P w K mg) : FnIn P w K mg base "_law_can_be_one" 1 c__law_can_be_one := by
    obtain ⟨f, fd, F, hm⟩ := h.d__law_can_be_one
    refine ⟨f, fd, _, rf_fn (n := 5) (np := 3) (j := 0) (m := m__law_can_be_one) F sc__law_can_be_one rfl rfl (fun cdv A outer s H E hr tk pss => ?_), hm, F.kp, F.bindsN (fun _ _ _ _ _ _ us hl => match us, hl with | [_, _, _], _ => rfl)⟩
    have sc := sc__law_can_be_one
    exact (sb_cons (ss_par2 (i := 3) (j := 4) rfl sc.nd rfl rfl (by decide) rfl rfl (sae_cons (se_ix (sp_var (pv 0)) (sp_var (pv 1)) rfl) (sae_cons (se_ix (sp_var (pv 0)) (sp_var (pv 2)) rfl) sae_nil rfl) rfl) rfl) (sb_cons (ss_if (st_cmp (cEq_ok hr.units) (sp_var (pv 1)) (sp_var (pv 2)) rfl) (sb_cons (ss_ret se_bl) sb_nil) sb_nil) (sb_cons (ss_if (PW.pt (sw_or (st_cmp (cNe_ok hr.units) (SE.pk (se_ix (sp_var (pv 3)) (SE.pk se_int) rfl)) (SE.pk (se_ix (sp_var (pv 4)) (SE.pk se_int) rfl)) rfl) (sw_or1 (st_cmp (cEq_ok hr.units) (SE.pk (se_ix (sp_var (pv 3)) (SE.pk se_int) rfl)) (SE.pk (se_str (l := [114, 111, 119]) (by decide +kernel))) rfl)))) (sb_cons (ss_ret se_bl) sb_nil) sb_nil) (sb_cons (ss_if (st_cmp (cEq_ok hr.units) (SE.pk (se_ix (sp_var (pv 3)) (SE.pk se_int) rfl)) (SE.pk (se_str (l := [116, 117, 112, 108, 101]) (by decide +kernel))) rfl) (sb_cons (ss_ret (se_cmp (cEq_ok hr.units) (SE.pk (se_callB bLen_ok (by rfl) h.b_len (by rfl) (sa_cons (SE.pk (se_ix (sp_var (pv 3)) (SE.pk se_int) rfl)) sa_nil rfl) rfl (by decide) (by decide))) (SE.pk (se_callB bLen_ok (by rfl) h.b_len (by rfl) (sa_cons (SE.pk (se_ix (sp_var (pv 4)) (SE.pk se_int) rfl)) sa_nil rfl) rfl (by decide) (by decide))) rfl)) sb_nil) sb_nil) (sb_cons (ss_ret (se_cmp (cEq_ok hr.units) (sp_var (pv 3)) (sp_var (pv 4)) rfl)) sb_nil)))))
theorem sc__law_possible : FnScope ["_law_things_here", "_law_row", "_law_one_here", "_law_other", "_law_pairs", "_law_a", "_law_b"] ["_law_things_here", "_law_row"] (defScope (top 18)) := ⟨rfl, rfl, rfl, by decide +kernel, rfl, by decide +kernel, by decide +kernel⟩
theorem ok__law_possible (h : Fc P w K mg) : FnIn P w K mg base "_law_possible" 2 c__law_possible := by
    obtain ⟨f, fd, F, hm⟩ := h.d__law_possible
    refine ⟨f, fd, _, rf_fn (n := 7) (np := 2) (j := 1) (m := m__law_possible) F sc__law_possible rfl rfl (fun cdv A outer s H E hr tk pss => ?_), hm, F.kp, F.bindsN (fun _ _ _ _ _ _ us hl => match us, hl with | [_, _], _ => rfl)⟩
    have sc := sc__law_possible
    exact (sb_cons (ss_for pss rfl (si_rng1 md_p (by rfl) h.b_range (SAE.q (sae_cons (se_callB bLen_ok (by rfl) h.b_len (by rfl) (sa_cons (sp_var (pv 0)) sa_nil rfl) rfl (by decide) (by decide)) sae_nil rfl)) rfl) (sg_name (pg_name sc.nd rfl (by first | exact Or.inl rfl | exact Or.inr rfl))) (sb_cons (ss_for pss rfl (si_rng1 md_p (by rfl) h.b_range (SAE.q (sae_cons (se_var (pv 2)) sae_nil rfl)) rfl) (sg_name (pg_name sc.nd rfl (by first | exact Or.inl rfl | exact Or.inr rfl))) (sb_cons (ss_if (st_cmp (cEq_ok hr.units) (SE.pk (se_ix (sp_var (pv 1)) (sp_var (pv 2)) rfl)) (SE.pk (se_ix (sp_var (pv 1)) (sp_var (pv 3)) rfl)) rfl) (sb_cons (ss_if (st_not (st_truth (SE.pk (se_call (FnIn.at (ok__law_can_be_one h) hr (by omega) rfl rfl rfl rfl rfl) (by rfl) tk (sae_cons (se_var (pv 0)) (sae_cons (se_var (pv 2)) (sae_cons (se_var (pv 3)) sae_nil rfl) rfl) rfl) rfl (by decide))) rfl)) (sb_cons (ss_ret se_bl) sb_nil) sb_nil) (sb_cons (ss_if (st_cmp (cEq_ok hr.units) (SE.pk (se_ix (SE.pk (se_ix (sp_var (pv 0)) (sp_var (pv 2)) rfl)) (SE.pk se_int) rfl)) (SE.pk (se_str (l := [116, 117, 112, 108, 101]) (by decide +kernel))) rfl) (sb_cons (by first | exact ss_setLc (ps_lc rfl sc.nd rfl rfl rfl rfl rfl (si_zipS md_e (by rfl) h.b_zip (SA.q (sa_cons (SE.pk (se_ix (SE.pk (se_ix (sp_var (pv 0)) (sp_var (pv 2)) rfl)) (SE.pk se_int) rfl)) (sa_cons (SE.pk (se_ix (SE.pk (se_ix (sp_var (pv 0)) (sp_var (pv 3)) rfl)) (SE.pk se_int) rfl)) sa_nil rfl) rfl)) rfl rfl) (blkOk_by (own := [("_law_a", 5), ("_law_b", 6)]) (by rfl)) (fun _ _ _ _ _ => (sg_tup rfl (sgs_cons (sg_name (pg_name sc.nd rfl (by first | exact Or.inl rfl | exact Or.inr rfl))) (sgs_cons (sg_name (pg_name sc.nd rfl (by first | exact Or.inl rfl | exact Or.inr rfl))) sgs_nil rfl) rfl) rfl rfl)) (fun _ _ _ _ _ => sts_nil) (fun _ _ _ _ _ => (se_tup (sae_cons (se_var (pv 5)) (sae_cons (se_var (pv 6)) sae_nil rfl) rfl))) (by decide) rfl) | exact ss_setS sc.nd rfl (by first | exact Or.inl rfl | exact Or.inr rfl) rfl (se_fz (sf_lc rfl sc.nd (si_zipS md_e (by rfl) h.b_zip (SA.q (sa_cons (SE.pk (se_ix (SE.pk (se_ix (sp_var (pv 0)) (sp_var (pv 2)) rfl)) (SE.pk se_int) rfl)) (sa_cons (SE.pk (se_ix (SE.pk (se_ix (sp_var (pv 0)) (sp_var (pv 3)) rfl)) (SE.pk se_int) rfl)) sa_nil rfl) rfl)) rfl rfl) (blkOk_by (own := [("_law_a", 5), ("_law_b", 6)]) (by rfl)) (fun _ _ _ _ _ => (sg_tup rfl (sgs_cons (sg_name (pg_name sc.nd rfl (by first | exact Or.inl rfl | exact Or.inr rfl))) (sgs_cons (sg_name (pg_name sc.nd rfl (by first | exact Or.inl rfl | exact Or.inr rfl))) sgs_nil rfl) rfl) rfl rfl)) (fun _ _ _ _ _ => sts_nil) (fun _ _ _ _ _ => (se_tup (sae_cons (se_var (pv 5)) (sae_cons (se_var (pv 6)) sae_nil rfl) rfl))) (by decide) rfl)) rfl) (sb_cons (ss_if (st_not (st_truth (SE.pk (se_callB (bAll_ok rfl) (by rfl) h.b_all (by rfl) (sa_cons (SE.pk (se_fz (sf_lc rfl sc.nd (si_val md_e (sp_var (pv 4))) (blkOk_by (own := [("_law_a", 5), ("_law_b", 6)]) (by rfl)) (fun _ _ _ _ _ => (sg_tup rfl (sgs_cons (sg_name (pg_name sc.nd rfl (by first | exact Or.inl rfl | exact Or.inr rfl))) (sgs_cons (sg_name (pg_name sc.nd rfl (by first | exact Or.inl rfl | exact Or.inr rfl))) sgs_nil rfl) rfl) rfl rfl)) (fun _ _ _ _ _ => sts_nil) (fun _ _ _ _ _ => (se_cmp (cEq_ok hr.units) (SE.pk (se_ix (sp_var (pv 1)) (sp_var (pv 5)) rfl)) (SE.pk (se_ix (sp_var (pv 1)) (sp_var (pv 6)) rfl)) rfl)) (by decide) rfl))) sa_nil rfl) rfl (by decide) (by decide))) rfl)) (sb_cons (ss_ret se_bl) sb_nil) sb_nil) sb_nil)) sb_nil) sb_nil)) sb_nil) sb_nil) rfl) sb_nil) rfl) (sb_cons (ss_ret se_bl) sb_nil))
theorem sc__law_is_clash : FnScope ["_law_sameness", "_law_answer", "error"] ["_law_sameness", "_law_answer"] (defScope (top 22)) := ⟨rfl, rfl, rfl, by decide +kernel, rfl, by decide +kernel, by decide +kernel⟩
theorem ok__law_is_clash (h : Fc P w K mg) : FnIn P w K mg base "_law_is_clash" 24 c__law_is_clash := by
    obtain ⟨f, fd, F, hm⟩ := h.d__law_is_clash
    refine ⟨f, fd, _, rf_fn (n := 3) (np := 2) (j := 23) (m := m__law_is_clash) F sc__law_is_clash rfl rfl (fun cdv A outer s H E hr tk pss => ?_), hm, F.kp, F.bindsN (fun _ _ _ _ _ _ us hl => match us, hl with | [_, _], _ => rfl)⟩
    have sc := sc__law_is_clash
    exact (sb_cons (ss_try (i := 2) rfl rfl rfl sc.nd rfl rfl ⟨by rfl, by decide, Or.inl h.x_Clash.1⟩ h.i_Clash tk (fun _ _ _ tk pss => (sb_cons (ss_drop (se_meth (mth_cons (MthIn.at ((ok_Sameness___init__ h 10).2.2.2) h.mf_Sameness_tell hr (by omega) rfl rfl rfl rfl rfl) mth_nil) tk (se_var (pv 0)) (sae_cons (se_ix (sp_var (pv 1)) (SE.pk se_int) rfl) (sae_cons (se_ix (sp_var (pv 1)) (SE.pk se_int) rfl) (sae_cons (se_ix (sp_var (pv 1)) (SE.pk se_int) rfl) sae_nil rfl) rfl) rfl) rfl rfl) rfl) sb_nil)) (fun a oe pn hv => have tk := @takes_no; (sb_cons (ss_ret (se_and (se_isX h.ki_MaybeError (by rfl) h.b_isinstance (pv 2) hv (pe_glob (by rfl) h.x_MaybeError.1 (v := .ref (He.ga K "MaybeError")) rfl (by decide)) (fun _ r => r) rfl) (se_one (se_isX h.ki_ValueError (by rfl) h.b_isinstance (pv 2) hv (pe_bltn (by rfl) h.b_ValueError (by rfl) (v := .ty "ValueError") rfl (by decide) (by decide)) (fun _ r => r) rfl)))) sb_nil))) (sb_cons (ss_ret se_bl) sb_nil))
theorem sc_Sameness_told : FnScope ["self"] ["self"] (defScope (mthOf 2 (top 6))) := ⟨rfl, rfl, rfl, by decide +kernel, rfl, by decide +kernel, by decide +kernel⟩
theorem ok_Sameness_told (h : Fc P w K mg) : PrpIn P w K mg base "Sameness" "told" 1 c_Sameness_told := by
    obtain ⟨fd, F⟩ := h.d_Sameness_told
    refine ⟨⟨fd, _, rf_fn (n := 1) (np := 1) (j := 0) (m := m_Sameness_told) F sc_Sameness_told rfl rfl (fun cdv A outer s H E hr tk pss => ?_), F.bindsN (fun _ _ _ _ _ _ us hl => match us, hl with | [_], _ => rfl)⟩⟩
    have sc := sc_Sameness_told
    exact (sb_cons (ss_ret (se_callT bTuple_ok (by rfl) h.b_tuple (by rfl) (sa_cons (SE.pk (se_fld h.fl_answered (se_var (pv 0)) (not_super rfl))) sa_nil rfl) rfl (by decide) (by decide))) sb_nil)
theorem sc_law : FnScope ["_law_script", "_law_deck_here", "_law_turn", "_law_many", "_law_things_here", "_law_rows", "_law_row", "_law_sameness", "_law_told", "_law_k", "_law_one_here", "_law_other", "_law_answer", "_law_left"] ["_law_script"] (defScope (top 23)) := ⟨rfl, rfl, rfl, by decide +kernel, rfl, by decide +kernel, by decide +kernel⟩
theorem okf_law (h : Fc P w K mg) {f : Addr} {fd : FuncData} (F : FunD K "law" "law" (defArgs (top 23)) (defBody (top 23)) (defScope (top 23)) [] [] f fd) : FnOkG P w K mg base (L2.CX P w) 26 f fd ["_law_script"] (spC (k0 K mg w) c_law) := by
  refine rf_fn (n := 14) (np := 1) (j := 25) (m := m_law) F sc_law rfl rfl (fun cdv A outer s H E hr tk pss => ?_)
  have sc := sc_law
  exact (sb_cons (ss_set sc.nd rfl (by first | exact Or.inl rfl | exact Or.inr rfl) rfl (se_call (FnIn.at (ok__law_deck h) hr (by omega) rfl rfl rfl rfl rfl) (by rfl) tk (sae_cons (se_var (pv 0)) sae_nil rfl) rfl (by decide)) rfl) (sb_cons (ss_for pss rfl (si_rng1 md_p (by rfl) h.b_range (SAE.q (sae_cons se_int sae_nil rfl)) rfl) (sg_name (pg_name sc.nd rfl (by first | exact Or.inl rfl | exact Or.inr rfl))) (sb_cons (ss_set sc.nd rfl (by first | exact Or.inl rfl | exact Or.inr rfl) rfl (se_if (st_cmp cLt_ok (sp_var (pv 2)) (SE.pk se_int) rfl) (se_bin oAdd_ok (SE.pk se_int) (SE.pk (se_call (FnIn.at (ok__law_draw h) hr (by omega) rfl rfl rfl rfl rfl) (by rfl) tk (sae_cons (se_var (pv 1)) (sae_cons se_int sae_nil rfl) rfl) rfl (by decide)))) se_int) rfl) (sb_cons (ss_set sc.nd rfl (by first | exact Or.inl rfl | exact Or.inr rfl) rfl (se_call (FnIn.at (ok__law_things h) hr (by omega) rfl rfl rfl rfl rfl) (by rfl) tk (sae_cons (se_var (pv 1)) (sae_cons (se_var (pv 3)) sae_nil rfl) rfl) rfl (by decide)) rfl) (sb_cons (by first | exact ss_setLc (ps_lc rfl sc.nd rfl rfl rfl rfl rfl (si_val md_e (SE.pk (se_call (FnIn.at (ok__law_divisions h) hr (by omega) rfl rfl rfl rfl rfl) (by rfl) tk (sae_cons (se_var (pv 3)) sae_nil rfl) rfl (by decide)))) (blkOk_by (own := [("_law_row", 6)]) (by rfl)) (fun _ _ _ _ _ => (sg_name (pg_name sc.nd rfl (by first | exact Or.inl rfl | exact Or.inr rfl)))) (fun _ _ _ _ _ => (sts_one (st_truth (SE.pk (se_call (FnIn.at (ok__law_possible h) hr (by omega) rfl rfl rfl rfl rfl) (by rfl) takes_no (sae_cons (se_var (pv 4)) (sae_cons (se_var (pv 6)) sae_nil rfl) rfl) rfl (by decide))) rfl))) (fun _ _ _ _ _ => (se_var (pv 6))) (by decide) rfl) | exact ss_setS sc.nd rfl (by first | exact Or.inl rfl | exact Or.inr rfl) rfl (se_fz (sf_lc rfl sc.nd (si_val md_e (SE.pk (se_call (FnIn.at (ok__law_divisions h) hr (by omega) rfl rfl rfl rfl rfl) (by rfl) tk (sae_cons (se_var (pv 3)) sae_nil rfl) rfl (by decide)))) (blkOk_by (own := [("_law_row", 6)]) (by rfl)) (fun _ _ _ _ _ => (sg_name (pg_name sc.nd rfl (by first | exact Or.inl rfl | exact Or.inr rfl)))) (fun _ _ _ _ _ => (sts_one (st_truth (SE.pk (se_call (FnIn.at (ok__law_possible h) hr (by omega) rfl rfl rfl rfl rfl) (by rfl) takes_no (sae_cons (se_var (pv 4)) (sae_cons (se_var (pv 6)) sae_nil rfl) rfl) rfl (by decide))) rfl))) (fun _ _ _ _ _ => (se_var (pv 6))) (by decide) rfl)) rfl) (sb_cons (ss_pv2 (i := 7) (j := 8) rfl sc.nd rfl rfl (by decide) rfl rfl (sv_v (se_makeD (IniD.mkC (miss := 1) ((ok_Sameness___init__ h 10).1) h.mk_Sameness (by decide) hr (by omega) rfl rfl rfl rfl rfl) (by rfl) (sae_cons (se_var (pv 4)) sae_nil rfl) rfl (by decide))) (sv_o (sf_lst sae_nil)) rfl rfl rfl) (sb_cons (ss_if (st_not (st_truth (SE.pk (se_call (FnIn.at (ok__law_state_right h) hr (by omega) rfl rfl rfl rfl rfl) (by rfl) tk (sae_cons (se_var (pv 7)) (sae_cons (se_var (pv 5)) (sae_cons (se_var (pv 3)) sae_nil rfl) rfl) rfl) rfl (by decide))) rfl)) (sb_cons (ss_ret se_bl) sb_nil) sb_nil) (sb_cons (ss_for pss rfl (si_rng1 md_p (by rfl) h.b_range (SAE.q (sae_cons (se_call (FnIn.at (ok__law_draw h) hr (by omega) rfl rfl rfl rfl rfl) (by rfl) tk (sae_cons (se_var (pv 1)) (sae_cons se_int sae_nil rfl) rfl) rfl (by decide)) sae_nil rfl)) rfl) (sg_name (pg_name sc.nd rfl (by first | exact Or.inl rfl | exact Or.inr rfl))) (sb_cons (ss_tg rfl rfl rfl (se_call (FnIn.at (ok__law_pair h) hr (by omega) rfl rfl rfl rfl rfl) (by rfl) tk (sae_cons (se_var (pv 1)) (sae_cons (se_var (pv 4)) sae_nil rfl) rfl) rfl (by decide)) (sg_tup rfl (sgs_cons (sg_name (pg_name sc.nd rfl (by first | exact Or.inl rfl | exact Or.inr rfl))) (sgs_cons (sg_name (pg_name sc.nd rfl (by first | exact Or.inl rfl | exact Or.inr rfl))) sgs_nil rfl) rfl) rfl rfl)) (sb_cons (ss_set sc.nd rfl (by first | exact Or.inl rfl | exact Or.inr rfl) rfl (se_callT bInt_ok (by rfl) h.b_int (by rfl) (sa_cons (SE.pk (se_cmp cGt_ok (SE.pk (se_call (FnIn.at (ok__law_draw h) hr (by omega) rfl rfl rfl rfl rfl) (by rfl) tk (sae_cons (se_var (pv 1)) (sae_cons se_int sae_nil rfl) rfl) rfl (by decide))) (SE.pk se_int) rfl)) sa_nil rfl) rfl (by decide) (by decide)) rfl) (sb_cons (by first | exact ss_setLc (ps_lc rfl sc.nd rfl rfl rfl rfl rfl (si_val md_e (sp_var (pv 5))) (blkOk_by (own := [("_law_row", 6)]) (by rfl)) (fun _ _ _ _ _ => (sg_name (pg_name sc.nd rfl (by first | exact Or.inl rfl | exact Or.inr rfl)))) (fun _ _ _ _ _ => (sts_one (st_cmp (cEq_ok hr.units) (SE.pk (se_cmp (cEq_ok hr.units) (SE.pk (se_ix (sp_var (pv 6)) (sp_var (pv 10)) rfl)) (SE.pk (se_ix (sp_var (pv 6)) (sp_var (pv 11)) rfl)) rfl)) (SE.pk (se_cmp (cEq_ok hr.units) (sp_var (pv 12)) (SE.pk se_int) rfl)) rfl))) (fun _ _ _ _ _ => (se_var (pv 6))) (by decide) rfl) | exact ss_setS sc.nd rfl (by first | exact Or.inl rfl | exact Or.inr rfl) rfl (se_fz (sf_lc rfl sc.nd (si_val md_e (sp_var (pv 5))) (blkOk_by (own := [("_law_row", 6)]) (by rfl)) (fun _ _ _ _ _ => (sg_name (pg_name sc.nd rfl (by first | exact Or.inl rfl | exact Or.inr rfl)))) (fun _ _ _ _ _ => (sts_one (st_cmp (cEq_ok hr.units) (SE.pk (se_cmp (cEq_ok hr.units) (SE.pk (se_ix (sp_var (pv 6)) (sp_var (pv 10)) rfl)) (SE.pk (se_ix (sp_var (pv 6)) (sp_var (pv 11)) rfl)) rfl)) (SE.pk (se_cmp (cEq_ok hr.units) (sp_var (pv 12)) (SE.pk se_int) rfl)) rfl))) (fun _ _ _ _ _ => (se_var (pv 6))) (by decide) rfl)) rfl) (sb_cons (ss_if (st_cmp (cEq_ok hr.units) (sp_var (pv 13)) (SE.pk (se_fz (sf_lst sae_nil))) rfl) (sb_cons (ss_if (st_not (st_truth (SE.pk (se_call (FnIn.at (ok__law_is_clash h) hr (by omega) rfl rfl rfl rfl rfl) (by rfl) tk (sae_cons (se_var (pv 7)) (sae_cons (se_tup (sae_cons (se_var (pv 10)) (sae_cons (se_var (pv 11)) (sae_cons (se_var (pv 12)) sae_nil rfl) rfl) rfl)) sae_nil rfl) rfl) rfl (by decide))) rfl)) (sb_cons (ss_ret se_bl) sb_nil) sb_nil) sb_nil) (sb_cons (ss_set sc.nd rfl (by first | exact Or.inl rfl | exact Or.inr rfl) rfl (se_var (pv 13)) rfl) (sb_cons (ss_app (pv 8) (se_tup (sae_cons (se_var (pv 10)) (sae_cons (se_var (pv 11)) (sae_cons (se_var (pv 12)) sae_nil rfl) rfl) rfl)) rfl rfl) (sb_cons (ss_if (st_cmp (cNe_ok hr.units) (SE.pk (se_callB (bReprI_ok (un64 hr.units) hr.gd) (by rfl) h.b_repr (by rfl) (sa_cons (SE.pk (se_meth (mth_cons (MthIn.at ((ok_Sameness___init__ h 10).2.2.2) h.mf_Sameness_tell hr (by omega) rfl rfl rfl rfl rfl) mth_nil) tk (se_var (pv 7)) (sae_cons (se_var (pv 10)) (sae_cons (se_var (pv 11)) (sae_cons (se_var (pv 12)) sae_nil rfl) rfl) rfl) rfl rfl)) sa_nil rfl) rfl (by decide) (by decide))) (SE.pk (se_callB (bReprI_ok (un64 hr.units) hr.gd) (by rfl) h.b_repr (by rfl) (sa_cons (SE.pk (se_callB bLen_ok (by rfl) h.b_len (by rfl) (sa_cons (sp_var (pv 8)) sa_nil rfl) rfl (by decide) (by decide))) sa_nil rfl) rfl (by decide) (by decide))) rfl) (sb_cons (ss_ret se_bl) sb_nil) sb_nil) sb_nil)))) (sb_cons (ss_if (PW.pt (sw_or (st_not (st_truth (SE.pk (se_call (FnIn.at (ok__law_state_right h) hr (by omega) rfl rfl rfl rfl rfl) (by rfl) tk (sae_cons (se_var (pv 7)) (sae_cons (se_var (pv 5)) (sae_cons (se_var (pv 3)) sae_nil rfl) rfl) rfl) rfl (by decide))) rfl)) (sw_or1 (st_cmp (cNe_ok hr.units) (SE.pk (se_callB (bReprI_ok (un64 hr.units) hr.gd) (by rfl) h.b_repr (by rfl) (sa_cons (SE.pk (se_prop (prp_cons (PrpIn.at (ok_Sameness_told h) h.pr_Sameness_told hr (by omega) rfl rfl rfl rfl rfl) prp_nil) (se_var (pv 7)) (not_super rfl))) sa_nil rfl) rfl (by decide) (by decide))) (SE.pk (se_callB (bReprI_ok (un64 hr.units) hr.gd) (by rfl) h.b_repr (by rfl) (sa_cons (SE.pk (se_callT bTuple_ok (by rfl) h.b_tuple (by rfl) (sa_cons (sp_var (pv 8)) sa_nil rfl) rfl (by decide) (by decide))) sa_nil rfl) rfl (by decide) (by decide))) rfl)))) (sb_cons (ss_ret se_bl) sb_nil) sb_nil) sb_nil))))) rfl) sb_nil)))))) rfl) (sb_cons (ss_ret se_bl) sb_nil)))
end
end Lw
set_option Elab.async false
set_option linter.all false
set_option maxRecDepth 100000
set_option maxHeartbeats 0
namespace Lw
open PySem PySem.Spec PyProof.Rows L2 TL Rf
def dfs : List He.DefD := [⟨("_law_deck", none), "_law_deck", "_law_deck", defArgs (top 8), defBody (top 8), defScope (top 8), [], []⟩, ⟨("_law_draw", none), "_law_draw", "_law_draw", defArgs (top 9), defBody (top 9), defScope (top 9), [], []⟩, ⟨("_law_one", none), "_law_one", "_law_one", defArgs (top 10), defBody (top 10), defScope (top 10), [], []⟩, ⟨("_law_word", none), "_law_word", "_law_word", defArgs (top 11), defBody (top 11), defScope (top 11), [], []⟩, ⟨("_law_thing", none), "_law_thing", "_law_thing", defArgs (top 12), defBody (top 12), defScope (top 12), [], []⟩, ⟨("_law_things", none), "_law_things", "_law_things", defArgs (top 13), defBody (top 13), defScope (top 13), [], []⟩, ⟨("Sameness", some "add"), "add", "Sameness.add", defArgs (mthOf 4 (top 6)), defBody (mthOf 4 (top 6)), defScope (mthOf 4 (top 6)), [], []⟩, ⟨("Sameness", some "root_of"), "root_of", "Sameness.root_of", defArgs (mthOf 6 (top 6)), defBody (mthOf 6 (top 6)), defScope (mthOf 6 (top 6)), [], []⟩, ⟨("Sameness", some "is_same"), "is_same", "Sameness.is_same", defArgs (mthOf 14 (top 6)), defBody (mthOf 14 (top 6)), defScope (mthOf 14 (top 6)), [], []⟩, ⟨("are_unlike", none), "are_unlike", "are_unlike", defArgs (top 5), defBody (top 5), defScope (top 5), [], []⟩, ⟨("Sameness", some "unite"), "unite", "Sameness.unite", defArgs (mthOf 7 (top 6)), defBody (mthOf 7 (top 6)), defScope (mthOf 7 (top 6)), [], []⟩, ⟨("Sameness", some "broken"), "broken", "Sameness.broken", defArgs (mthOf 11 (top 6)), defBody (mthOf 11 (top 6)), defScope (mthOf 11 (top 6)), [], []⟩, ⟨("Sameness", some "steps_to"), "steps_to", "Sameness.steps_to", defArgs (mthOf 8 (top 6)), defBody (mthOf 8 (top 6)), defScope (mthOf 8 (top 6)), [], []⟩, ⟨("Sameness", some "way_between"), "way_between", "Sameness.way_between", defArgs (mthOf 9 (top 6)), defBody (mthOf 9 (top 6)), defScope (mthOf 9 (top 6)), [], []⟩, ⟨("Sameness", some "steps_between"), "steps_between", "Sameness.steps_between", defArgs (mthOf 10 (top 6)), defBody (mthOf 10 (top 6)), defScope (mthOf 10 (top 6)), [], []⟩, ⟨("Sameness", some "__init__"), "__init__", "Sameness.__init__", defArgs (mthOf 0 (top 6)), defBody (mthOf 0 (top 6)), defScope (mthOf 0 (top 6)), [.adr (He.dflAt ("Sameness", some "__init__") 0), .adr (He.dflAt ("Sameness", some "__init__") 1)], []⟩, ⟨("Sameness", some "twin"), "twin", "Sameness.twin", defArgs (mthOf 5 (top 6)), defBody (mthOf 5 (top 6)), defScope (mthOf 5 (top 6)), [], []⟩, ⟨("Sameness", some "trial"), "trial", "Sameness.trial", defArgs (mthOf 12 (top 6)), defBody (mthOf 12 (top 6)), defScope (mthOf 12 (top 6)), [], []⟩, ⟨("Sameness", some "tell"), "tell", "Sameness.tell", defArgs (mthOf 13 (top 6)), defBody (mthOf 13 (top 6)), defScope (mthOf 13 (top 6)), [], []⟩, ⟨("Sameness", some "classes"), "classes", "Sameness.classes", defArgs (mthOf 16 (top 6)), defBody (mthOf 16 (top 6)), defScope (mthOf 16 (top 6)), [], []⟩, ⟨("_law_classes", none), "_law_classes", "_law_classes", defArgs (top 20), defBody (top 20), defScope (top 20), [], []⟩, ⟨("_law_is_bool", none), "_law_is_bool", "_law_is_bool", defArgs (top 19), defBody (top 19), defScope (top 19), [], []⟩, ⟨("Sameness", some "may_be_same"), "may_be_same", "Sameness.may_be_same", defArgs (mthOf 15 (top 6)), defBody (mthOf 15 (top 6)), defScope (mthOf 15 (top 6)), [], []⟩, ⟨("_law_state_right", none), "_law_state_right", "_law_state_right", defArgs (top 21), defBody (top 21), defScope (top 21), [], []⟩, ⟨("_law_like", none), "_law_like", "_law_like", defArgs (top 14), defBody (top 14), defScope (top 14), [], []⟩, ⟨("_law_pair", none), "_law_pair", "_law_pair", defArgs (top 15), defBody (top 15), defScope (top 15), [], []⟩, ⟨("_law_divisions", none), "_law_divisions", "_law_divisions", defArgs (top 17), defBody (top 17), defScope (top 17), [], []⟩, ⟨("_law_can_be_one", none), "_law_can_be_one", "_law_can_be_one", defArgs (top 16), defBody (top 16), defScope (top 16), [], []⟩, ⟨("_law_possible", none), "_law_possible", "_law_possible", defArgs (top 18), defBody (top 18), defScope (top 18), [], []⟩, ⟨("_law_is_clash", none), "_law_is_clash", "_law_is_clash", defArgs (top 22), defBody (top 22), defScope (top 22), [], []⟩, ⟨("law", none), "law", "law", defArgs (top 23), defBody (top 23), defScope (top 23), [], []⟩, ⟨("Clash", some "__init__"), "__init__", "Clash.__init__", defArgs (iniOf (top 3)), defBody (iniOf (top 3)), defScope (iniOf (top 3)), [], []⟩]
def fas : List He.Fa := [.glo "_law_deck", .glo "_law_draw", .glo "_law_one", .glo "_law_word", .glo "_law_thing", .glo "_law_things", .glo "are_unlike", .glo "_law_classes", .glo "_law_is_bool", .glo "_law_state_right", .glo "_law_like", .glo "_law_pair", .glo "_law_divisions", .glo "_law_can_be_one", .glo "_law_possible", .glo "_law_is_clash", .glo "law", .glo "Sameness", .cls "Sameness", .noat "Sameness" "answered", .noat "Sameness" "edges", .noat "Sameness" "listed", .noat "Sameness" "roots", .meth "Sameness" "add", .meth "Sameness" "broken", .meth "Sameness" "classes", .meth "Sameness" "is_same", .meth "Sameness" "may_be_same", .meth "Sameness" "root_of", .meth "Sameness" "steps_between", .meth "Sameness" "steps_to", .meth "Sameness" "tell", .meth "Sameness" "trial", .meth "Sameness" "twin", .meth "Sameness" "unite", .meth "Sameness" "way_between", .mkr "Sameness", .free "ValueError", .free "abs", .free "all", .free "any", .free "bool", .free "enumerate", .free "int", .free "isinstance", .free "len", .free "list", .free "max", .free "min", .free "range", .free "repr", .free "reversed", .free "sorted", .free "tuple", .free "zip"]
def tbs : List He.Tab := []
def sfs : List (Bool × He.DefD) := [(true, ⟨("Sameness", some "told"), "told", "Sameness.told", defArgs (mthOf 2 (top 6)), defBody (mthOf 2 (top 6)), defScope (mthOf 2 (top 6)), [], []⟩)]
def ckk (K : PySem.W.Frag) : Bool := (clsB K "Clash" ["steps"]) && (clsB K "MaybeError" []) && (rsB K (He.ga K "Clash") (He.ma K (He.ga K "Clash") "__init__")) && (isB K (.ref (He.ga K "Clash")) [("Clash", true)]) && (kiB K (.ref (He.ga K "MaybeError")) [("Clash", true)]) && (kiB K (.type "ValueError") [("Clash", true)]) && (pokB K "Sameness" "told" "Sameness.told") && (prpB K "Sameness" "Sameness" "told") && (etB K (He.dflAt ("Sameness", some "__init__") 0 K)) && (etB K (He.dflAt ("Sameness", some "__init__") 1 K)) && (decide (He.ma K (He.ga K "Sameness") "add" = He.ma K (He.ga K "Sameness") "add")) && (decide (He.ma K (He.ga K "Sameness") "broken" = He.ma K (He.ga K "Sameness") "broken")) && (decide (He.ma K (He.ga K "Sameness") "classes" = He.ma K (He.ga K "Sameness") "classes")) && (decide (He.ma K (He.ga K "Sameness") "is_same" = He.ma K (He.ga K "Sameness") "is_same")) && (decide (He.ma K (He.ga K "Sameness") "may_be_same" = He.ma K (He.ga K "Sameness") "may_be_same")) && (decide (He.ma K (He.ga K "Sameness") "root_of" = He.ma K (He.ga K "Sameness") "root_of")) && (decide (He.ma K (He.ga K "Sameness") "steps_between" = He.ma K (He.ga K "Sameness") "steps_between")) && (decide (He.ma K (He.ga K "Sameness") "steps_to" = He.ma K (He.ga K "Sameness") "steps_to")) && (decide (He.ma K (He.ga K "Sameness") "tell" = He.ma K (He.ga K "Sameness") "tell")) && (decide (He.ma K (He.ga K "Sameness") "trial" = He.ma K (He.ga K "Sameness") "trial")) && (decide (He.ma K (He.ga K "Sameness") "twin" = He.ma K (He.ga K "Sameness") "twin")) && (decide (He.ma K (He.ga K "Sameness") "unite" = He.ma K (He.ga K "Sameness") "unite")) && (decide (He.ma K (He.ga K "Sameness") "way_between" = He.ma K (He.ga K "Sameness") "way_between")) && (decide (He.ma K (He.ga K "Sameness") "__init__" = He.ma K (He.ga K "Sameness") "__init__"))
abbrev Rw : PySem.W.OpenRow := PySem.W.OpenLaw.row PySem.Challenge.rw_maybesame_k26_whole_same_in_every_divisi
abbrev hk : PySem.W.Hook := hookP 6 fas dfs sfs tbs ckk
def ob (s : PySem.W.SharedT) : He.AlT × Bool × List FnS := obP 6 fas dfs sfs tbs ckk (HandSHeadRun.getT s)
theorem ob_eq (s : PySem.W.SharedT) : ob s = hk.obs s.abs := obP_eq (HandSHeadRun.getT_eq s)
def loose : List Str := (["_wall", "are_unlike", "_law_deck", "_law_draw", "_law_one", "_law_word", "_law_thing", "_law_things", "_law_like", "_law_pair", "_law_can_be_one", "_law_divisions", "_law_possible", "_law_is_bool", "_law_classes", "_law_state_right"] : List Str) ++ (["_law_is_clash", "MaybeError", "Clash", "Sameness"] : List Str)
theorem run (w : World) : HandSHeadRun.RunEq Rw (PySem.W.view Rw.prog [23]) hk ob 9000 loose w := by
  intro os
  kernel_rfl
theorem facts {w : World} {K : PySem.W.Frag} {h : Heap} {mg : Str → Option Value} (X : K.In h) (G : h.Ns mainGlobals mg) (c : He.SaysT fas dfs tbs w K) (ck : ckk K = true) (sy : (sfs.map fun d => fnSP K d) = sfs.map valSP) : Fc (PySem.Challenge.rw_maybesame_k26_whole_same_in_every_divisi).prog w K mg := by
  have cd := c.d
  unfold ckk at ck
  simp only [Bool.and_eq_true] at ck
  obtain ⟨⟨⟨⟨⟨⟨⟨⟨⟨⟨⟨⟨⟨⟨⟨⟨⟨⟨⟨⟨⟨⟨⟨q0, q1⟩, q2⟩, q3⟩, q4⟩, q5⟩, q6⟩, q7⟩, q8⟩, q9⟩, q10⟩, q11⟩, q12⟩, q13⟩, q14⟩, q15⟩, q16⟩, q17⟩, q18⟩, q19⟩, q20⟩, q21⟩, q22⟩, q23⟩ := ck
  refine ⟨?_, ?_, ?_, ?_, ?_, ?_, ?_, ?_, ?_, ?_, ?_, ?_, ?_, ?_, ?_, ?_, ?_, ?_, ?_, ?_, ?_, ?_, ?_, ?_, ?_, ?_, ?_, ?_, ?_, ?_, ?_, ?_, ?_, ?_, ?_, ?_, ?_, ?_, ?_, ?_, ?_, ?_, ?_, ?_, ?_, ?_, ?_, ?_, ?_, ?_, ?_, ?_, ?_, ?_, ?_, ?_, ?_, ?_, ?_, ?_, ?_, ?_, ?_, ?_, ?_, ?_, ?_, ?_, ?_, ?_, ?_, ?_, ?_, ?_, ?_⟩
  · exact def_at X G cd (by simp [dfs]) (by simp [fas])
  · exact def_at X G cd (by simp [dfs]) (by simp [fas])
  · exact def_at X G cd (by simp [dfs]) (by simp [fas])
  · exact def_at X G cd (by simp [dfs]) (by simp [fas])
  · exact def_at X G cd (by simp [dfs]) (by simp [fas])
  · exact def_at X G cd (by simp [dfs]) (by simp [fas])
  · exact mdef_at cd (by simp [dfs])
  · exact mdef_at cd (by simp [dfs])
  · exact mdef_at cd (by simp [dfs])
  · exact def_at X G cd (by simp [dfs]) (by simp [fas])
  · exact mdef_at cd (by simp [dfs])
  · exact mdef_at cd (by simp [dfs])
  · exact mdef_at cd (by simp [dfs])
  · exact mdef_at cd (by simp [dfs])
  · exact mdef_at cd (by simp [dfs])
  · exact (cd.defs (d := ⟨("Sameness", some "__init__"), "__init__", "Sameness.__init__", defArgs (mthOf 0 (top 6)), defBody (mthOf 0 (top 6)), defScope (mthOf 0 (top 6)), [.adr (He.dflAt ("Sameness", some "__init__") 0), .adr (He.dflAt ("Sameness", some "__init__") 1)], []⟩) (by simp [dfs])).elim fun fd F => ⟨fd, _, F, rfl, fun H g => (RepL.cons (etB_ok (k := k0 K mg w) q8 H g) (RepL.cons (etB_ok (k := k0 K mg w) q9 H g) (show RepL _ _ _ [] [] from rfl)))⟩
  · exact mdef_at cd (by simp [dfs])
  · exact mdef_at cd (by simp [dfs])
  · exact mdef_at cd (by simp [dfs])
  · exact mdef_at cd (by simp [dfs])
  · exact def_at X G cd (by simp [dfs]) (by simp [fas])
  · exact def_at X G cd (by simp [dfs]) (by simp [fas])
  · exact mdef_at cd (by simp [dfs])
  · exact def_at X G cd (by simp [dfs]) (by simp [fas])
  · exact def_at X G cd (by simp [dfs]) (by simp [fas])
  · exact def_at X G cd (by simp [dfs]) (by simp [fas])
  · exact def_at X G cd (by simp [dfs]) (by simp [fas])
  · exact def_at X G cd (by simp [dfs]) (by simp [fas])
  · exact def_at X G cd (by simp [dfs]) (by simp [fas])
  · exact def_at X G cd (by simp [dfs]) (by simp [fas])
  · exact pdef_at (says_p sy (d := (true, ⟨("Sameness", some "told"), "told", "Sameness.told", defArgs (mthOf 2 (top 6)), defBody (mthOf 2 (top 6)), defScope (mthOf 2 (top 6)), [], []⟩)) (by simp [sfs])) q6
  · exact def_at X G cd (by simp [dfs]) (by simp [fas])
  · exact (fldK_cons (fld_at X G cd (by simp [fas]) (by simp [fas]) (by simp [fas])) fldK_nil)
  · exact (fldK_cons (fld_at X G cd (by simp [fas]) (by simp [fas]) (by simp [fas])) fldK_nil)
  · exact (fldK_cons (fld_at X G cd (by simp [fas]) (by simp [fas]) (by simp [fas])) fldK_nil)
  · exact (fldK_cons (fld_at X G cd (by simp [fas]) (by simp [fas]) (by simp [fas])) fldK_nil)
  · exact mthF_at X G cd (by simp [fas]) (by simp [fas]) (by simp [fas]) (by first | exact q10 | exact decide_eq_true rfl)
  · exact mthF_at X G cd (by simp [fas]) (by simp [fas]) (by simp [fas]) (by first | exact q11 | exact decide_eq_true rfl)
  · exact mthF_at X G cd (by simp [fas]) (by simp [fas]) (by simp [fas]) (by first | exact q12 | exact decide_eq_true rfl)
  · exact mthF_at X G cd (by simp [fas]) (by simp [fas]) (by simp [fas]) (by first | exact q13 | exact decide_eq_true rfl)
  · exact mthF_at X G cd (by simp [fas]) (by simp [fas]) (by simp [fas]) (by first | exact q14 | exact decide_eq_true rfl)
  · exact mthF_at X G cd (by simp [fas]) (by simp [fas]) (by simp [fas]) (by first | exact q15 | exact decide_eq_true rfl)
  · exact mthF_at X G cd (by simp [fas]) (by simp [fas]) (by simp [fas]) (by first | exact q16 | exact decide_eq_true rfl)
  · exact mthF_at X G cd (by simp [fas]) (by simp [fas]) (by simp [fas]) (by first | exact q17 | exact decide_eq_true rfl)
  · exact mthF_at X G cd (by simp [fas]) (by simp [fas]) (by simp [fas]) (by first | exact q18 | exact decide_eq_true rfl)
  · exact mthF_at X G cd (by simp [fas]) (by simp [fas]) (by simp [fas]) (by first | exact q19 | exact decide_eq_true rfl)
  · exact mthF_at X G cd (by simp [fas]) (by simp [fas]) (by simp [fas]) (by first | exact q20 | exact decide_eq_true rfl)
  · exact mthF_at X G cd (by simp [fas]) (by simp [fas]) (by simp [fas]) (by first | exact q21 | exact decide_eq_true rfl)
  · exact mthF_at X G cd (by simp [fas]) (by simp [fas]) (by simp [fas]) (by first | exact q22 | exact decide_eq_true rfl)
  · exact prpF_at X G cd (by simp [fas]) (by simp [fas]) q7
  · exact mkF_at X G cd (by simp [fas]) (by simp [fas]) (by first | exact q23 | exact decide_eq_true rfl)
  · exact free_at X G cd (by simp [fas])
  · exact free_at X G cd (by simp [fas])
  · exact free_at X G cd (by simp [fas])
  · exact free_at X G cd (by simp [fas])
  · exact free_at X G cd (by simp [fas])
  · exact free_at X G cd (by simp [fas])
  · exact free_at X G cd (by simp [fas])
  · exact free_at X G cd (by simp [fas])
  · exact free_at X G cd (by simp [fas])
  · exact free_at X G cd (by simp [fas])
  · exact free_at X G cd (by simp [fas])
  · exact free_at X G cd (by simp [fas])
  · exact free_at X G cd (by simp [fas])
  · exact free_at X G cd (by simp [fas])
  · exact free_at X G cd (by simp [fas])
  · exact free_at X G cd (by simp [fas])
  · exact free_at X G cd (by simp [fas])
  · exact free_at X G cd (by simp [fas])
  · exact clsB_ok X G q0
  · exact clsB_ok X G q1
  · exact fun P => (cd.defs (d := ⟨("Clash", some "__init__"), "__init__", "Clash.__init__", defArgs (iniOf (top 3)), defBody (iniOf (top 3)), defScope (iniOf (top 3)), [], []⟩) (by simp [dfs])).elim fun fd F => rs_Clash (clsB_ok X G q0) (rsB_ok q2) F
  · exact isB_ok X G q3
  · exact kiB_ok X G q4
  · exact kiB_ok X G q5
end Lw
set_option Elab.async false
set_option linter.all false
set_option maxRecDepth 100000
set_option maxHeartbeats 0
open PySem PySem.W PySem.Calls PyProof.Rows
theorem Lw.cw_of (law : ∀ ns : List Int, ns.length ≤ 63 → ∃ S, Lw.c_law [.scr ns] [] = .ok (.bl true) S) : PySem.Challenge.rw_maybesame_k26_whole_same_in_every_divisi.Holds := by
  w_on; o_law
  refine HandSHeadRun.head_any (r := OpenLaw.row PySem.Challenge.rw_maybesame_k26_whole_same_in_every_divisi) (q := view (OpenLaw.row PySem.Challenge.rw_maybesame_k26_whole_same_in_every_divisi).prog [23]) (H := Lw.hk) (ob := Lw.ob) (M := 9000) (loose := Lw.loose) (d := HandSHeadRun.topDef (OpenLaw.row PySem.Challenge.rw_maybesame_k26_whole_same_in_every_divisi).prog 23) (kwd := []) Lw.ob_eq
    (by kernel_rfl) (fun s => by kernel_rfl) Lw.run (by kernel_rfl) (by kernel_rfl) (by kernel_rfl) (by rfl) (by first | assumption | decide +kernel) (by decide +kernel) ⟨rfl, rfl, rfl, rfl, rfl, by decide +kernel⟩ ?hw ?hc
  case hw => w_witness2
  case hc =>
    refine Rf.rf_walk (l := PySem.Challenge.rw_maybesame_k26_whole_same_in_every_divisi) (n := 63) (k := 26) (x := "_law_script") (c := Lw.c_law) rfl (by decide) (by kernel_rfl) ⟨⟨rfl, by decide, by decide⟩, rfl⟩ ?F law
    intro w mg fa h Y G hmg0
    obtain ⟨K, KX, c, ck, sy⟩ := Y
    have hmg : mg ("law" : PySem.Str) = some (.ref fa) := by
      have e : (HandSHeadRun.topDef (OpenLaw.row PySem.Challenge.rw_maybesame_k26_whole_same_in_every_divisi).prog 23).name = ("law" : PySem.Str) := by kernel_rfl
      rw [← e]
      exact hmg0
    have fc := Lw.facts KX G c ck sy
    obtain ⟨f1, fd1, F1, g1⟩ := fc.d_law
    have e1 : f1 = fa := by
      rw [hmg] at g1
      cases g1; rfl
    subst e1
    exact ⟨K, fd1, KX, fun s v => L2.FunD.bindsA (ps := ["_law_script"]) F1 (fun _ _ _ _ _ _ us hl => match us, hl with | [_], _ => rfl) s [v] rfl, fun base => Lw.okf_law fc F1⟩
set_option Elab.async false
set_option linter.all false
set_option maxRecDepth 100000
set_option maxHeartbeats 0
namespace Rf
open PySem PySem.Spec PyProof.Rows L2 TL Rf
section
variable {T S : Sto} {n : Nat}
theorem Deck.app {G : Sto} (h : Deck T n S) : Deck (T ++ G) n (S ++ G) := by
  obtain ⟨cs, c, rfl, h⟩ := h
  exact ⟨cs, c, rfl, h⟩
end
def DkE (n : Nat) (x0 x1 : O) : Prop := Deck [] n [x0, x1]
section
variable {n m : Nat} {x0 x1 : O} {T S : Sto}
theorem DkE.le (h : DkE n x0 x1) (e : m ≤ n) : DkE m x0 x1 := Deck.le h e
theorem DkE.deck (h : DkE n x0 x1) (T : Sto) : Deck T n (x0 :: x1 :: T) := Deck.app (G := T) h
theorem Deck.cut (h : Deck T n S) : ∃ x0 x1, S = x0 :: x1 :: T ∧ DkE n x0 x1 := by
  obtain ⟨cs, c, rfl, h⟩ := h
  exact ⟨_, _, rfl, cs, c, rfl, h⟩
theorem Deck.e (h : Deck T n (x0 :: x1 :: T)) : DkE n x0 x1 := by
  obtain ⟨cs, c, e, h⟩ := h
  have e1 := (List.cons.inj e).1
  have e2 := (List.cons.inj (List.cons.inj e).2).1
  rw [e1, e2]
  exact ⟨cs, c, rfl, h⟩
variable {P : D → Sto → Prop} {xp : ExP}
theorem w_draw3 {many : Int} (h : DkE (n + 1) x0 x1) (h0 : 0 < many) (hm : many.natAbs.log2 < 9000) (k : ∀ (r : Int) (x0 x1 : O), 0 ≤ r → r < many → DkE n x0 x1 → P (.int r) (x0 :: x1 :: T)) : wp (c__law_draw [.obj 1, .int many] (x0 :: x1 :: T)) P :=
  w_draw (h.deck T) h0 hm fun r S' h1 h2 h3 => by
    obtain ⟨y0, y1, rfl, h4⟩ := h3.cut
    exact k r y0 y1 h1 h2 h4
theorem w_one3 {xs : List D} (h : DkE (n + 1) x0 x1) (h0 : xs ≠ []) (hz : xs.length < 2 ^ 40) (k : ∀ (x : D) (x0 x1 : O), x ∈ xs → DkE n x0 x1 → P x (x0 :: x1 :: T)) : wp (c__law_one [.obj 1, .lst xs] (x0 :: x1 :: T)) P :=
  w_one (h.deck T) h0 hz fun r S' h1 h3 => by
    obtain ⟨y0, y1, rfl, h4⟩ := h3.cut
    exact k r y0 y1 h1 h4
end
theorem q_setC {i : Nat} {m : EM} {L : Ls} {S : Sto} {PS : Fl → Ls → Sto → Prop} {xp : ExP} (h : wp (m L S) fun d S1 => ∀ L', L.set i (.v d) = L' → PS .nx L' S1) : wps (sSet i m L S) PS := q_set (h.mono fun d S1 k => k _ rfl)
theorem q_tgC {t : Tg} {m : EM} {L : Ls} {S : Sto} {PS : Fl → Ls → Sto → Prop} {xp : ExP} (h : wp (m L S) fun d S1 => ∃ L1, tgA t d L = some L1 ∧ ∀ L', L1 = L' → PS .nx L' S1) : wps (sTg t m L S) PS := q_tg (h.mono fun d S1 ⟨L1, e, k⟩ => ⟨L1, e, k _ rfl⟩)
theorem q_par2C {i j : Nat} {ma : Ls → Sto → R (List D)} {L : Ls} {S : Sto} {PS : Fl → Ls → Sto → Prop} {xp : ExP} (h : wp (ma L S) fun ds S1 => ∃ x y, ds = [x, y] ∧ ∀ L', (L.set i (.v x)).set j (.v y) = L' → PS .nx L' S1) : wps (sPar2 i j ma L S) PS := q_par2 (h.mono fun ds S1 ⟨x, y, e, k⟩ => ⟨x, y, e, k _ rfl⟩)
theorem q_par3C {i j l : Nat} {ma : Ls → Sto → R (List D)} {L : Ls} {S : Sto} {PS : Fl → Ls → Sto → Prop} {xp : ExP} (h : wp (ma L S) fun ds S1 => ∃ x y z, ds = [x, y, z] ∧ ∀ L', ((L.set i (.v x)).set j (.v y)).set l (.v z) = L' → PS .nx L' S1) : wps (sPar3 i j l ma L S) PS := q_par3 (h.mono fun ds S1 ⟨x, y, z, e, k⟩ => ⟨x, y, z, e, k _ rfl⟩)
instance {i : Nat} {m : EM} {L : Ls} {S : Sto} {PS : Fl → Ls → Sto → Prop} {xp : ExP} : Ws (sSet i m L S) PS (wp (m L S) fun d S1 => ∀ L', L.set i (.v d) = L' → PS .nx L' S1) := ⟨q_setC⟩
instance {t : Tg} {m : EM} {L : Ls} {S : Sto} {PS : Fl → Ls → Sto → Prop} {xp : ExP} : Ws (sTg t m L S) PS (wp (m L S) fun d S1 => ∃ L1, tgA t d L = some L1 ∧ ∀ L', L1 = L' → PS .nx L' S1) := ⟨q_tgC⟩
instance {i j : Nat} {ma : Ls → Sto → R (List D)} {L : Ls} {S : Sto} {PS : Fl → Ls → Sto → Prop} {xp : ExP} : Ws (sPar2 i j ma L S) PS (wp (ma L S) fun ds S1 => ∃ x y, ds = [x, y] ∧ ∀ L', (L.set i (.v x)).set j (.v y) = L' → PS .nx L' S1) := ⟨q_par2C⟩
instance {i j l : Nat} {ma : Ls → Sto → R (List D)} {L : Ls} {S : Sto} {PS : Fl → Ls → Sto → Prop} {xp : ExP} : Ws (sPar3 i j l ma L S) PS (wp (ma L S) fun ds S1 => ∃ x y z, ds = [x, y, z] ∧ ∀ L', ((L.set i (.v x)).set j (.v y)).set l (.v z) = L' → PS .nx L' S1) := ⟨q_par3C⟩
theorem lsG {L : Ls} {P : Ls → Prop} (h : ∀ L', L = L' → P L') : ∀ L', L = L' → P L' := h
theorem ltG {a b : Nat} (h : a < b) : a < b := h
theorem stG {S : Sto} {P : Sto → Prop} (h : ∀ S', S = S' → P S') : ∀ S', S = S' → P S' := h
theorem ntG {n : Nat} {P : Nat → Prop} (h : ∀ n', n = n' → P n') : ∀ n', n = n' → P n' := h
theorem tgX {t : Tg} {d : D} {L : Ls} {Q : Ls → Prop} (L1 : Ls) (e : tgA t d L = some L1) (k : ∀ L', L1 = L' → Q L') : ∃ L1, tgA t d L = some L1 ∧ Q L1 := ⟨L1, e, k _ rfl⟩
section
variable {xp : ExP} {P : D → Sto → Prop} {PS : Fl → Ls → Sto → Prop} {L : Ls} {S : Sto} {a b c : EM} {ma : Ls → Sto → R (List D)} {i : Nat} {sb : SM} {all xs ds : List D} {d : D} {t : Tg}
theorem f_consC (h : xs = d :: ds) (k : ∃ L1, tgA t d L = some L1 ∧ ∀ L', L1 = L' → wps (sb L' S) fun fl L2 S2 => match fl with
    | .nx => wps (forL none all t sb ds L2 S2) PS
    | .ct => wps (forL none all t sb ds L2 S2) PS
    | .bk => PS .nx L2 S2
    | .rt x => PS (.rt x) L2 S2) : wps (forL none all t sb xs L S) PS := by
  obtain ⟨L1, e, k⟩ := k
  exact f_cons h ⟨L1, e, k _ rfl⟩
theorem r_eNwC (h : wp (ma L S) fun ds S1 => ∀ n, S1.length = n → ∀ S', S1 ++ [.lst ds] = S' → P (.obj n) S') : wp (eNw ma L S) P := r_eNw (h.mono fun ds S1 k => k _ rfl _ rfl)
theorem r_nwKC (h : ∀ n, S.length = n → ∀ S', S ++ [.dK []] = S' → P (.obj n) S') : wp (eNwK L S) P := r_nwK (h _ rfl _ rfl)
theorem r_nwNC (h : ∀ n, S.length = n → ∀ S', S ++ [.dN []] = S' → P (.obj n) S') : wp (eNwN L S) P := r_nwN (h _ rfl _ rfl)
theorem q_appOC (h : wp (a L S) fun o S1 => ∃ n ds0, o = .obj n ∧ S1[n]? = some (.lst ds0) ∧ wp (b L S1) fun d S2 => ∃ ds, S2[n]? = some (.lst ds) ∧ ds.length < sizeLine ∧ ∀ S', S2.set n (.lst (ds ++ [d])) = S' → PS .nx L S') : wps (sAppO a b L S) PS :=
  q_appO (h.mono fun o S1 ⟨n, ds0, e, e1, k⟩ => ⟨n, ds0, e, e1, k.mono fun d S2 ⟨ds, e2, e3, k⟩ => ⟨ds, e2, e3, k _ rfl⟩⟩)
theorem q_putOC (h : wp (c L S) fun d S1 => wp (a L S1) fun o S2 => ∃ n, o = .obj n ∧ wp (b L S2) fun j S3 => ∃ k ds jj, j = .int k ∧ S3[n]? = some (.lst ds) ∧ ixN ds.length k = some jj ∧ ∀ S', S3.set n (.lst (ds.set jj d)) = S' → PS .nx L S') : wps (sPutO a b c L S) PS :=
  q_putO (h.mono fun d S1 k => k.mono fun o S2 ⟨n, e, k⟩ => ⟨n, e, k.mono fun j S3 ⟨q, ds, jj, e1, e2, e3, k⟩ => ⟨q, ds, jj, e1, e2, e3, k _ rfl⟩⟩)
theorem q_putDC (h : wp (c L S) fun d S1 => wp (a L S1) fun o S2 => wp (b L S2) fun y S3 => ∃ n q kvs, o = .obj n ∧ kKey y = some q ∧ S3[n]? = some (.dK kvs) ∧ kvs.length < sizeLine ∧ ∀ S', S3.set n (.dK (dPutK kvs q d)) = S' → PS .nx L S') : wps (sPutD a b c L S) PS :=
  q_putD (h.mono fun d S1 k => k.mono fun o S2 k => k.mono fun y S3 ⟨n, q, kvs, e, e1, e2, e3, k⟩ => ⟨n, q, kvs, e, e1, e2, e3, k _ rfl⟩)
theorem r_setKC (h : wp (a L S) fun o S1 => (∃ r, dLook S1 o (.int 0) = some r) ∧ wp (b L S1) fun y S2 => wp (c L S2) fun z S3 => ∃ n q kvs, o = .obj n ∧ kKey y = some q ∧ S3[n]? = some (.dK kvs) ∧ kvs.length < sizeLine ∧
    (∀ d, dGetK kvs q = some d → P d S3) ∧ (dGetK kvs q = none → ∀ S', S3.set n (.dK (dPutK kvs q z)) = S' → P z S')) : wp (eSetK a b c L S) P :=
  r_setK (h.mono fun o S1 ⟨e, k⟩ => ⟨e, k.mono fun y S2 k => k.mono fun z S3 ⟨n, q, kvs, e1, e2, e3, e4, k1, k2⟩ => ⟨n, q, kvs, e1, e2, e3, e4, k1, fun g => k2 g _ rfl⟩⟩)
theorem r_setNC (h : wp (a L S) fun o S1 => isDN S1 o = true ∧ wp (b L S1) fun y S2 => wp (c L S2) fun z S3 => ∃ n q kvs, o = .obj n ∧ kNk y = some q ∧ S3[n]? = some (.dN kvs) ∧ kvs.length < sizeLine ∧
    (∀ d, nGet kvs q = some d → P d S3) ∧ (nGet kvs q = none → ∀ S', S3.set n (.dN (kvs ++ [(q, z)])) = S' → P z S')) : wp (eSetN a b c L S) P :=
  r_setN (h.mono fun o S1 ⟨e, k⟩ => ⟨e, k.mono fun y S2 k => k.mono fun z S3 ⟨n, q, kvs, e1, e2, e3, e4, k1, k2⟩ => ⟨n, q, kvs, e1, e2, e3, e4, k1, fun g => k2 g _ rfl⟩⟩)
instance : Wp (eNw ma L S) P (wp (ma L S) fun ds S1 => ∀ n, S1.length = n → ∀ S', S1 ++ [.lst ds] = S' → P (.obj n) S') := ⟨r_eNwC⟩
instance : Wp (eNwK L S) P (∀ n, S.length = n → ∀ S', S ++ [.dK []] = S' → P (.obj n) S') := ⟨r_nwKC⟩
instance : Wp (eNwN L S) P (∀ n, S.length = n → ∀ S', S ++ [.dN []] = S' → P (.obj n) S') := ⟨r_nwNC⟩
instance : Ws (sAppO a b L S) PS (wp (a L S) fun o S1 => ∃ n ds0, o = .obj n ∧ S1[n]? = some (.lst ds0) ∧ wp (b L S1) fun d S2 => ∃ ds, S2[n]? = some (.lst ds) ∧ ds.length < sizeLine ∧ ∀ S', S2.set n (.lst (ds ++ [d])) = S' → PS .nx L S') := ⟨q_appOC⟩
instance : Ws (sPutO a b c L S) PS (wp (c L S) fun d S1 => wp (a L S1) fun o S2 => ∃ n, o = .obj n ∧ wp (b L S2) fun j S3 => ∃ k ds jj, j = .int k ∧ S3[n]? = some (.lst ds) ∧ ixN ds.length k = some jj ∧ ∀ S', S3.set n (.lst (ds.set jj d)) = S' → PS .nx L S') := ⟨q_putOC⟩
instance : Ws (sPutD a b c L S) PS (wp (c L S) fun d S1 => wp (a L S1) fun o S2 => wp (b L S2) fun y S3 => ∃ n q kvs, o = .obj n ∧ kKey y = some q ∧ S3[n]? = some (.dK kvs) ∧ kvs.length < sizeLine ∧ ∀ S', S3.set n (.dK (dPutK kvs q d)) = S' → PS .nx L S') := ⟨q_putDC⟩
instance : Wp (eSetK a b c L S) P (wp (a L S) fun o S1 => (∃ r, dLook S1 o (.int 0) = some r) ∧ wp (b L S1) fun y S2 => wp (c L S2) fun z S3 => ∃ n q kvs, o = .obj n ∧ kKey y = some q ∧ S3[n]? = some (.dK kvs) ∧ kvs.length < sizeLine ∧
    (∀ d, dGetK kvs q = some d → P d S3) ∧ (dGetK kvs q = none → ∀ S', S3.set n (.dK (dPutK kvs q z)) = S' → P z S')) := ⟨r_setKC⟩
instance : Wp (eSetN a b c L S) P (wp (a L S) fun o S1 => isDN S1 o = true ∧ wp (b L S1) fun y S2 => wp (c L S2) fun z S3 => ∃ n q kvs, o = .obj n ∧ kNk y = some q ∧ S3[n]? = some (.dN kvs) ∧ kvs.length < sizeLine ∧
    (∀ d, nGet kvs q = some d → P d S3) ∧ (nGet kvs q = none → ∀ S', S3.set n (.dN (kvs ++ [(q, z)])) = S' → P z S')) := ⟨r_setNC⟩
theorem q_ownC (h : wp (ma L S) fun ds S1 => ∀ L', L.set i (.o (.lst ds)) = L' → PS .nx L' S1) : wps (sOwn i ma L S) PS := q_own (h.mono fun ds S1 k => k _ rfl)
theorem v_appC {m : EM} (h : ∃ ds, L[i]? = some (.o (.lst ds)) ∧ wp (m L S) fun d S1 => ds.length < sizeLine ∧ ∀ L', L.set i (.o (.lst (ds ++ [d]))) = L' → PS .nx L' S1) : wps (sApp i m L S) PS := by
  obtain ⟨ds, e, h⟩ := h
  exact v_app ⟨ds, e, h.mono fun d S1 ⟨h1, k⟩ => ⟨h1, k _ rfl⟩⟩
theorem v_augC {m : EM} {o : D → D → Option D} (h : ∃ d, L[i]? = some (.v d) ∧ wp (m L S) fun y S1 => ∃ z, o (deref S1 d) (deref S1 y) = some z ∧ ∀ L', L.set i (.v z) = L' → PS .nx L' S1) : wps (sAug i o m L S) PS := by
  obtain ⟨d, e, h⟩ := h
  exact v_aug ⟨d, e, h.mono fun y S1 ⟨z, e, k⟩ => ⟨z, e, k _ rfl⟩⟩
theorem v_frzC (h : ∃ v, L[i]? = some v ∧ match v with
    | .v _ => wps (sb L S) PS
    | .o (.lst ds) => ∀ L', L.set i (.v (.lst ds)) = L' → wps (sb L' S) PS
    | _ => False) : wps (sFrz i sb L S) PS := by
  obtain ⟨v, e, h⟩ := h
  refine v_frz ⟨v, e, ?_⟩
  cases v with
  | v d => exact h
  | o u => cases u with
    | lst ds => exact h _ rfl
    | _ => exact h.elim
  | un => exact h.elim
  | exc x => exact h.elim
instance : Ws (sOwn i ma L S) PS (wp (ma L S) fun ds S1 => ∀ L', L.set i (.o (.lst ds)) = L' → PS .nx L' S1) := ⟨q_ownC⟩
instance {m : EM} : Ws (sApp i m L S) PS (∃ ds, L[i]? = some (.o (.lst ds)) ∧ wp (m L S) fun d S1 => ds.length < sizeLine ∧ ∀ L', L.set i (.o (.lst (ds ++ [d]))) = L' → PS .nx L' S1) := ⟨v_appC⟩
instance {m : EM} {o : D → D → Option D} : Ws (sAug i o m L S) PS (∃ d, L[i]? = some (.v d) ∧ wp (m L S) fun y S1 => ∃ z, o (deref S1 d) (deref S1 y) = some z ∧ ∀ L', L.set i (.v z) = L' → PS .nx L' S1) := ⟨v_augC⟩
instance : Ws (sFrz i sb L S) PS (∃ v, L[i]? = some v ∧ match v with
    | .v _ => wps (sb L S) PS
    | .o (.lst ds) => ∀ L', L.set i (.v (.lst ds)) = L' → wps (sb L' S) PS
    | _ => False) := ⟨v_frzC⟩
theorem dep1 {n : Nat} {ds : List D} (h : S[n]? = some (.lst ds)) : DepC S [(n, ds)] := fun p hp => by rw [List.mem_singleton.mp hp]; exact h
theorem g_drL {o : D → D → Option D} {n : Nat} {ds : List D} {y : D} {Q : D → Prop} (h : S[n]? = some (.lst ds)) (k : ∃ z, o (.lst ds) y = some z ∧ Q z) : ∃ z, o (deref S (.obj n)) y = some z ∧ Q z := by
  have e : deref S (.obj n) = .lst ds := by show (match S[n]? with | some (.lst ds) => D.lst ds | _ => D.obj n) = _; rw [h]
  rw [e]; exact k
theorem g_dr1 {oL : List D → Option D} {n : Nat} {ds : List D} {Q : D → Prop} (h : S[n]? = some (.lst ds)) (k : ∃ z, oL [.lst ds] = some z ∧ Q z) : ∃ z, oL ([D.obj n].map (deref S)) = some z ∧ Q z := by
  have e : deref S (.obj n) = .lst ds := by show (match S[n]? with | some (.lst ds) => D.lst ds | _ => D.obj n) = _; rw [h]
  rw [List.map_cons, List.map_nil, e]; exact k
theorem repG {ds : List D} {Q : D → Prop} (h : ∃ z, bRepr ds = some z ∧ Q z) : ∃ z, bRepr ds = some z ∧ Q z := h
end
/-- what the walker leaves alone -/
structure Iv (p : Prop) : Prop where
  out : p
theorem g_as {e : Option D} {z : D} {Q : D → Prop} (h : e = some z) (k : Q z) : ∃ z, e = some z ∧ Q z := ⟨z, h, k⟩
theorem cEq_tup {ds es : List D} (h1 : okD (.tup ds) = true) (h2 : okD (.tup es) = true) (d1 : dp (.tup ds) ≤ 64) (d2 : dp (.tup es) ≤ 64) : cEq (.tup ds) (.tup es) = some (.bl (eqvL ds es)) := by
  have e : eqB (.tup ds) (.tup es) = if shp (.tup ds) && shp (.tup es) then some (eqvL ds es) else none := rfl
  unfold cEq
  rw [e, okD_shp h1 d1, okD_shp h2 d2]
  rfl
theorem cNe_tup {ds es : List D} (h1 : okD (.tup ds) = true) (h2 : okD (.tup es) = true) (d1 : dp (.tup ds) ≤ 64) (d2 : dp (.tup es) ≤ 64) : cNe (.tup ds) (.tup es) = some (.bl (!eqvL ds es)) := by
  have e : eqB (.tup ds) (.tup es) = if shp (.tup ds) && shp (.tup es) then some (eqvL ds es) else none := rfl
  unfold cNe
  rw [e, okD_shp h1 d1, okD_shp h2 d2]
  rfl
end Rf
set_option Elab.async false
set_option linter.all false
set_option maxRecDepth 100000
set_option maxHeartbeats 0
namespace Rf
open PySem PySem.Spec PyProof.Rows L2 TL Rf
abbrev nD (n : Nat) : D := .int (n : Int)
inductive Th where
  | num (i : Int) | odd | word (x : List Nat) | row | tup (ps : List Nat)
  deriving DecidableEq, Inhabited
def Th.d : Th → D
  | .num i => .tup [.str [110, 117, 109, 98, 101, 114], .int i]
  | .odd => .tup [.str [111, 100, 100]]
  | .word x => .tup [.str [119, 111, 114, 100], .str x]
  | .row => .tup [.str [114, 111, 119]]
  | .tup ps => .tup [.str [116, 117, 112, 108, 101], .tup (ps.map nD)]
def Th.ok (n : Nat) : Th → Prop
  | .tup ps => ps.length ≤ 1000 ∧ ∀ p ∈ ps, p < n
  | .word x => ∀ c ∈ x, c < 0x110000
  | _ => True
structure An where
  a : Nat
  b : Nat
  t : Int
  deriving Inhabited
def An.d (x : An) : D := .tup [nD x.a, nD x.b, .int x.t]
/-- kinds of values that may be asked what they are -/
def tk : D → Bool
  | .obj _ => false
  | .gl _ => false
  | .ty _ => false
  | .scr _ => false
  | .ins _ _ _ => false
  | _ => true
def isP (d : D) (n : Nat) : Bool := match d with
  | .int i => decide (0 ≤ i) && decide (i < n)
  | _ => false
def ix : D → Nat
  | .int i => i.toNat
  | _ => 0
theorem isP_get {d : D} {n : Nat} (h : isP d n = true) : ∃ k : Nat, d = nD k ∧ k < n := by
  cases d with
  | int i =>
    simp only [isP, Bool.and_eq_true, decide_eq_true_iff] at h
    exact ⟨i.toNat, congrArg D.int (by omega), by omega⟩
  | _ => cases h
def abt (a b p q : Nat) : Bool := (decide (a = p) && decide (b = q)) || (decide (a = q) && decide (b = p))
instance ix0 {x : D} {r : List D} : Op (oIx (.tup (x :: r)) (.int 0)) x := ⟨atI_some (i := 0) rfl⟩
instance ix1 {x y : D} {r : List D} : Op (oIx (.tup (x :: y :: r)) (.int 1)) y := ⟨atI_some (i := 1) rfl⟩
theorem bl_g {a b : Bool} {S : Sto} (h : a = b) : D.bl a = D.bl b ∧ S = S := ⟨congrArg D.bl h, rfl⟩
section
variable {S : Sto}
section
local macro_rules | `(tactic| walk_at "rf") => `(tactic| first | (with_reducible exact rfl) | fail)
local macro_rules | `(tactic| walk_at "rf") => `(tactic| first | ((with_reducible refine anG ?_); ((with_reducible refine r_dec (fun ht => ?_) (fun ht => ?_)) <;> first | (exfalso; omega) | skip)) | ((with_reducible refine anG ?_); ((with_reducible refine And.intro ?_ ?_); exact rfl)) | fail)
local macro_rules | `(tactic| walk_at "rf") => `(tactic| first | ((with_reducible refine anG ?_); ((with_reducible apply r_isT); (· first | with_reducible assumption | exact rfl))) | ((with_reducible refine anG ?_); ((with_reducible apply r_isF); (· first | with_reducible assumption | exact rfl))) | fail)
local macro_rules | `(tactic| walk_at "rf") => `(tactic| first | ((with_reducible refine exG ?_); (with_reducible refine g_op ?_)) | ((with_reducible refine exG ?_); ((with_reducible apply Exists.intro); (fail_if_success (with_reducible refine g_og ?_ ?_)); (fail_if_success (with_reducible refine repG ?_)); (repeat (with_reducible apply Exists.intro)); refine And.intro rfl ?_)) | fail)
local macro_rules | `(tactic| walk_at "rf") => `(tactic| first | ((with_reducible refine wpG ?_); (with_reducible refine Wp.imp ?_)) | ((with_reducible refine wsG ?_); (with_reducible refine Ws.imp ?_)) | fail)
theorem numb_eq (d : D) (h : tk d = true) (n : Nat) : c__law_is_number [d, nD n] S = .ok (.bl (isP d n)) S := ok_of (by
  apply u__law_is_number
  cases d <;> first | (cases h; done) | skip
  all_goals repeat' walk_at "rf"
  all_goals first
    | exact ⟨rfl, rfl⟩
    | exact bl_g (by simp [isP, *]))
theorem labout_eq (a b p q : Nat) (r : List D) : c__law_about [.tup (nD a :: nD b :: r), nD p, nD q] S = .ok (.bl (abt a b p q)) S := ok_of (by
  apply u__law_about
  repeat' walk_at "rf"
  all_goals exact bl_g (by rw [Bool.eq_iff_iff]; simp only [abt, Bool.or_eq_true, Bool.and_eq_true, decide_eq_true_iff, Bool.false_eq_true, false_iff, true_iff]; omega))
end
end
def sA : List Nat := [97, 115, 107, 101, 100]
def sP : List Nat := [112, 97, 114, 116]
def sC : List Nat := [99, 104, 97, 105, 110]
def hs : D → List Nat → Bool
  | .str x, s => x == s
  | _, _ => false
def rp : D → Nat × Nat
  | .tup (a :: b :: _) => (ix a, ix b)
  | _ => (0, 0)
def askB (as : List An) (p q : Nat) : List D → Bool
  | [d] => isP d as.length && (decide ((as.getD (ix d) default).t = 1) && abt (as.getD (ix d) default).a (as.getD (ix d) default).b p q)
  | _ => false
def twoB (t u : Th) (e : D) (p q : Nat) : Bool := match t, u with
  | .tup ps, .tup qs => decide (ps.length = qs.length) && (isP e ps.length && abt p q (ps.getD (ix e) 0) (qs.getD (ix e) 0))
  | _, _ => false
def prtB (ts : List Th) (vs : List D) (k p q : Nat) : List D → Bool
  | [d, e] => isP d k && twoB (ts.getD (rp (vs.getD (ix d) .non)).1 .row) (ts.getD (rp (vs.getD (ix d) .non)).2 .row) e p q
  | _ => false
def midB (x y z w p q m : Nat) : Bool := (abt x y p m && abt z w m q) || (abt z w p m && abt x y m q)
def chB (r s : Nat × Nat) (p q : Nat) : Bool := midB r.1 r.2 s.1 s.2 p q r.1 || midB r.1 r.2 s.1 s.2 p q r.2
def chnB (vs : List D) (k p q : Nat) : List D → Bool
  | [d, e] => isP d k && (isP e k && chB (rp (vs.getD (ix d) .non)) (rp (vs.getD (ix e) .non)) p q)
  | _ => false
def whyB (ts : List Th) (as : List An) (vs : List D) (k p q : Nat) (h : D) (t : List D) : Bool :=
  if hs h sA = true then askB as p q t else if hs h sP = true then prtB ts vs k p q t else hs h sC && chnB vs k p q t
def rowV (ts : List Th) (as : List An) (vs : List D) (k : Nat) : D → Bool
  | .tup [a, b, .tup (h :: t)] => isP a ts.length && (isP b ts.length && whyB ts as vs k (ix a) (ix b) h t)
  | _ => false
def rowB (ts : List Th) (as : List An) (vs : List D) (k : Nat) : Bool := rowV ts as vs k (vs.getD k .non)
end Rf
set_option Elab.async false
set_option linter.all false
set_option maxRecDepth 100000
set_option maxHeartbeats 0
namespace Rf
open PySem PySem.Spec PyProof.Rows L2 TL Rf
theorem oIx_map {α : Type} {f : α → D} {xs : List α} {k : Nat} (h : k < xs.length) (z : α) : oIx (.tup (xs.map f)) (nD k) = some (f (xs.getD k z)) := atI_some (by
  rw [List.getElem?_map, List.getElem?_eq_getElem h, List.getD_eq_getElem?_getD, List.getElem?_eq_getElem h]; rfl)
theorem notT {b : Bool} (h : b = false) : (!b) = true := by rw [h]; rfl
theorem notF {b : Bool} (h : b = true) : (!b) = false := by rw [h]; rfl
section
variable {S : Sto} {ts : List Th} {as : List An} {vs : List D}
section
theorem gD {vs : List D} {k : Nat} {d z : D} (h : vs[k]? = some d) : vs.getD k z = d := by rw [List.getD_eq_getElem?_getD, h]; rfl
end
end
end Rf
set_option Elab.async false
set_option linter.all false
set_option maxRecDepth 100000
set_option maxHeartbeats 0
namespace Rf
open PySem PySem.Spec PyProof.Rows L2 TL Rf
theorem g_ab {a b p q : Nat} {A B : Prop} (h1 : abt a b p q = true → A) (h2 : abt a b p q = false → B) : (abt a b p q = true → A) ∧ (abt a b p q = false → B) := ⟨h1, h2⟩
section
variable {S : Sto} {ts : List Th} {as : List An} {vs : List D}
section
end
end
end Rf
set_option Elab.async false
set_option linter.all false
set_option maxRecDepth 100000
set_option maxHeartbeats 0
namespace Rf
open PySem PySem.Spec PyProof.Rows L2 TL Rf
def Av (d : D) : Prop := tk d = true ∧ ∀ s, okD (.str s) = true → cEqU d (.str s) = some (.bl (hs d s))
structure It (x : D) : Prop where
  tk : tk x = true
  tup : ∀ ys, x = .tup ys → ys.length < 1000 ∧ ∀ y ∈ ys, Av y
section
variable {S : Sto} {ts : List Th} {as : List An} {vs : List D}
theorem g_b2 {o : D → D → Option D} {x y z : D} {Q : D → Prop} (e : o x y = some z) (hx : deref S x = x) (hy : deref S y = y) (k : Q z) : ∃ z, o (deref S x) (deref S y) = some z ∧ Q z := by
  rw [hx, hy]; exact ⟨z, e, k⟩
theorem g_c2 {o : List D → Option D} {x y z : D} {Q : D → Prop} (e : o [x, y] = some z) (hx : deref S x = x) (hy : deref S y = y) (k : Q z) : ∃ z, o ([x, y].map (deref S)) = some z ∧ Q z := by
  rw [List.map_cons, List.map_cons, List.map_nil, hx, hy]; exact ⟨z, e, k⟩
section
end
end
end Rf
set_option Elab.async false
set_option linter.all false
set_option maxRecDepth 100000
set_option maxHeartbeats 0
namespace Rf
open PySem PySem.Spec PyProof.Rows L2 TL Rf
theorem mid_in {x y z w p q m : Nat} (h : midB x y z w p q m = true) : m = x ∨ m = y := by
  simp only [midB, abt, Bool.or_eq_true, Bool.and_eq_true, decide_eq_true_iff] at h
  omega
theorem chB_of {x y z w p q m : Nat} (h : midB x y z w p q m = true) : chB (x, y) (z, w) p q = true := by
  show (midB x y z w p q x || midB x y z w p q y) = true
  rcases mid_in h with rfl | rfl
  · rw [h, Bool.true_or]
  · rw [h, Bool.or_true]
section
variable {S : Sto} {ts : List Th} {as : List An} {vs : List D}
section
local macro_rules | `(tactic| walk_at "rf") => `(tactic| first | ((with_reducible refine anG ?_); ((with_reducible apply r_isT); (· first | with_reducible assumption | exact rfl))) | ((with_reducible refine anG ?_); ((with_reducible apply r_isF); (· first | with_reducible assumption | exact rfl))) | fail)
local macro_rules | `(tactic| walk_at "rf") => `(tactic| first | ((with_reducible refine exG ?_); (with_reducible refine g_op ?_)) | ((with_reducible refine exG ?_); ((with_reducible apply Exists.intro); (fail_if_success (with_reducible refine g_og ?_ ?_)); (fail_if_success (with_reducible refine repG ?_)); (repeat (with_reducible apply Exists.intro)); refine And.intro rfl ?_)) | fail)
local macro_rules | `(tactic| walk_at "rf") => `(tactic| first | ((with_reducible refine wsG ?_); (with_reducible refine Ws.imp ?_)) | ((with_reducible refine exG ?_); ((with_reducible apply g_rng1); (· exact rfl); (· constructor <;> omega))) | fail)
local macro_rules | `(tactic| walk_at "rf") => `(tactic| first | ((with_reducible refine lsG ?_); (intro L' hL'; (try simp only [List.set_cons_zero, List.set_cons_succ] at hL'); subst hL')) | ((with_reducible refine wpG ?_); (with_reducible refine Wp.imp ?_)) | fail)
local macro_rules | `(tactic| walk_at "rf") => `(tactic| first | (with_reducible refine g_ab (fun ht => ?_) (fun ht => ?_)) | (with_reducible refine stopL_in ?_) | fail)
local macro_rules | `(tactic| walk_at "rf") => `(tactic| first | ((with_reducible apply r_isT); (· exact notT (by with_reducible assumption))) | ((with_reducible apply r_isF); (· exact notF (by with_reducible assumption))) | fail)
local macro_rules | `(tactic| walk_at "rf") => `(tactic| first | (with_reducible refine wp.eq (numb_eq _ (by first | assumption | rfl) _) ?_) | (with_reducible refine wp.eq (labout_eq _ _ _ _ _) ?_) | fail)
local macro_rules | `(tactic| walk_at "rf") => `(tactic| first | ((with_reducible apply g_b2); (· with_reducible assumption); (· first | with_reducible assumption | rfl); (· first | with_reducible assumption | rfl)) | ((with_reducible refine r_dec (fun ht => ?_) (fun ht => ?_)) <;> first | (exact absurd (by with_reducible assumption) ht) | (exact absurd rfl ht) | (exfalso; omega) | (exfalso; simp only [List.length_cons, List.length_nil, List.length_map] at ht; omega) | skip) | fail)
end
end
end Rf
set_option Elab.async false
set_option linter.all false
set_option maxRecDepth 100000
set_option maxHeartbeats 0
namespace Rf
open PySem PySem.Spec PyProof.Rows L2 TL Rf
instance eqU_i {a b : Int} : Op (cEqU (.int a) (.int b)) (.bl (decide (a = b))) := ⟨rfl⟩
section
variable {S : Sto} {ts : List Th} {as : List An} {vs : List D}
section
local macro_rules | `(tactic| walk_at "rf") => `(tactic| first | ((with_reducible refine anG ?_); ((with_reducible refine And.intro ?_ ?_); exact Nat.le_of_ble_eq_true rfl)) | (with_reducible exact rfl) | fail)
local macro_rules | `(tactic| walk_at "rf") => `(tactic| first | ((with_reducible refine anG ?_); ((with_reducible apply r_isF); (· first | with_reducible assumption | exact rfl))) | ((with_reducible refine anG ?_); ((with_reducible refine And.intro ?_ ?_); exact rfl)) | fail)
local macro_rules | `(tactic| walk_at "rf") => `(tactic| first | ((with_reducible refine exG ?_); ((with_reducible apply Exists.intro); (fail_if_success (with_reducible refine g_og ?_ ?_)); (fail_if_success (with_reducible refine repG ?_)); (repeat (with_reducible apply Exists.intro)); refine And.intro rfl ?_)) | ((with_reducible refine anG ?_); ((with_reducible apply r_isT); (· first | with_reducible assumption | exact rfl))) | fail)
local macro_rules | `(tactic| walk_at "rf") => `(tactic| first | ((with_reducible refine wsG ?_); ((with_reducible apply f_nil); (· exact rfl))) | ((with_reducible refine exG ?_); (with_reducible refine g_op ?_)) | fail)
local macro_rules | `(tactic| walk_at "rf") => `(tactic| first | ((with_reducible refine wsG ?_); (with_reducible refine Ws.imp ?_)) | ((with_reducible refine wsG ?_); ((with_reducible apply f_consC); (· exact rfl))) | fail)
local macro_rules | `(tactic| walk_at "rf") => `(tactic| first | ((with_reducible refine lsG ?_); (intro L' hL'; (try simp only [List.set_cons_zero, List.set_cons_succ] at hL'); subst hL')) | ((with_reducible refine wpG ?_); (with_reducible refine Wp.imp ?_)) | fail)
local macro_rules | `(tactic| walk_at "rf") => `(tactic| first | ((with_reducible apply r_isT); (· with_reducible assumption)) | ((with_reducible apply r_isF); (· with_reducible assumption)) | fail)
local macro_rules | `(tactic| walk_at "rf") => `(tactic| first | ((with_reducible apply r_isT); (· exact notT (by with_reducible assumption))) | ((with_reducible apply r_isF); (· exact notF (by with_reducible assumption))) | fail)
local macro_rules | `(tactic| walk_at "rf") => `(tactic| first | (with_reducible refine wp.eq (numb_eq _ (by first | assumption | rfl) _) ?_) | (with_reducible refine wp.eq (labout_eq _ _ _ _ _) ?_) | fail)
local macro_rules | `(tactic| walk_at "rf") => `(tactic| first | ((with_reducible apply wp.eq); (· with_reducible assumption)) | ((with_reducible refine r_dec (fun ht => ?_) (fun ht => ?_)) <;> first | (exact absurd (by with_reducible assumption) ht) | (exact absurd rfl ht) | (exfalso; omega) | (exfalso; simp only [List.length_cons, List.length_nil, List.length_map] at ht; omega) | skip) | fail)
local macro_rules | `(tactic| walk_at "rf") => `(tactic| first | ((with_reducible apply g_b2); (· with_reducible assumption); (· first | with_reducible assumption | rfl); (· first | with_reducible assumption | rfl)) | ((with_reducible apply g_c2); (· with_reducible assumption); (· first | with_reducible assumption | rfl); (· first | with_reducible assumption | rfl)) | fail)
end
end
end Rf
set_option Elab.async false
set_option linter.all false
set_option maxRecDepth 100000
set_option maxHeartbeats 0
namespace Rf
open PySem PySem.Spec PyProof.Rows L2 TL Rf
def unl2 : Th → Th → Bool
  | .row, .row => true
  | .tup ps, .tup qs => !decide (ps.length = qs.length)
  | t, u => !decide (t = u)
def unlB (ts : List Th) (p q : Nat) : Bool := if p = q then false else unl2 (ts.getD p .row) (ts.getD q .row)
def Th.nm : Th → List Nat
  | .num _ => [110, 117, 109, 98, 101, 114]
  | .odd => [111, 100, 100]
  | .word _ => [119, 111, 114, 100]
  | .row => [114, 111, 119]
  | .tup _ => [116, 117, 112, 108, 101]
def Th.rs : Th → List D
  | .num i => [.int i]
  | .odd => []
  | .word x => [.str x]
  | .row => []
  | .tup ps => [.tup (ps.map nD)]
theorem Th.d_eq (T : Th) : T.d = .tup (.str T.nm :: T.rs) := by cases T <;> rfl
theorem Th.nm_tup {T : Th} (h : T.nm = [116, 117, 112, 108, 101]) : ∃ ps, T = .tup ps := by cases T <;> first | exact ⟨_, rfl⟩ | (exfalso; revert h; simp [Th.nm]; done)
theorem Th.nm_row {T : Th} (h : T.nm = [114, 111, 119]) : T = .row := by cases T <;> first | rfl | (exfalso; revert h; simp [Th.nm]; done)
theorem unl_ne {T U : Th} (h : T.nm ≠ U.nm) : unl2 T U = true := by
  have hne : T ≠ U := fun e => h (by rw [e])
  cases T <;> cases U <;> first | rfl | exact absurd rfl h
theorem Th.okd {n : Nat} {T : Th} (h : T.ok n) (ht : T.nm ≠ [116, 117, 112, 108, 101]) : okD T.d = true ∧ dp T.d ≤ 64 := by
  cases T with
  | num i => exact ⟨rfl, Nat.le_of_ble_eq_true rfl⟩
  | odd => exact ⟨rfl, Nat.le_of_ble_eq_true rfl⟩
  | row => exact ⟨rfl, Nat.le_of_ble_eq_true rfl⟩
  | word x =>
    refine ⟨?_, Nat.le_of_ble_eq_true rfl⟩
    show (okD (.str [119, 111, 114, 100]) && (okD (.str x) && true)) = true
    have : okD (.str x) = true := by
      show x.all (fun c => decide (c < 0x110000)) = true
      rw [List.all_eq_true]
      exact fun c hc => decide_eq_true (h c hc)
    rw [this]; rfl
  | tup ps => exact absurd rfl ht
theorem Th.eqd {n : Nat} {T U : Th} (hT : T.ok n) (hU : U.ok n) (hn : T.nm = U.nm) (ht : T.nm ≠ [116, 117, 112, 108, 101]) :
    cEq (.tup (.str T.nm :: T.rs)) (.tup (.str U.nm :: U.rs)) = some (.bl (decide (T = U))) ∧ cNe (.tup (.str T.nm :: T.rs)) (.tup (.str U.nm :: U.rs)) = some (.bl (!decide (T = U))) := by
  have h1 := Th.okd hT ht
  have h2 := Th.okd hU (hn ▸ ht)
  rw [Th.d_eq] at h1 h2
  have e : eqvL (.str T.nm :: T.rs) (.str U.nm :: U.rs) = decide (T = U) := by
    cases T <;> cases U <;> first
      | (exfalso; revert hn; simp [Th.nm]; done)
      | (exact absurd rfl ht)
      | rfl
      | (simp [Th.nm, Th.rs, eqvL, eqv]; done)
      | (simp [Th.nm, Th.rs, eqvL, eqv]; rw [Bool.eq_iff_iff, beq_iff_eq, decide_eq_true_iff])
  exact ⟨by rw [cEq_tup h1.1 h2.1 h1.2 h2.2, e], by rw [cNe_tup h1.1 h2.1 h1.2 h2.2, e]⟩
theorem unl_eq {T U : Th} (h : T.nm = U.nm) (h1 : T.nm ≠ [114, 111, 119]) (h2 : T.nm ≠ [116, 117, 112, 108, 101]) : unl2 T U = !decide (T = U) := by
  cases T <;> cases U <;> first | rfl | exact absurd rfl h1 | exact absurd rfl h2
section
variable {S : Sto} {ts : List Th} {as : List An} {vs : List D}
section
local macro_rules | `(tactic| walk_at "rf") => `(tactic| first | ((with_reducible refine anG ?_); ((with_reducible refine And.intro ?_ ?_); exact rfl)) | (with_reducible exact rfl) | fail)
local macro_rules | `(tactic| walk_at "rf") => `(tactic| first | ((with_reducible refine exG ?_); ((with_reducible apply Exists.intro); (fail_if_success (with_reducible refine g_og ?_ ?_)); (fail_if_success (with_reducible refine repG ?_)); (repeat (with_reducible apply Exists.intro)); refine And.intro rfl ?_)) | ((with_reducible refine anG ?_); ((with_reducible apply r_isT); (· first | with_reducible assumption | exact rfl))) | fail)
local macro_rules | `(tactic| walk_at "rf") => `(tactic| first | ((with_reducible refine wsG ?_); (with_reducible refine Ws.imp ?_)) | ((with_reducible refine exG ?_); (with_reducible refine g_op ?_)) | fail)
local macro_rules | `(tactic| walk_at "rf") => `(tactic| first | ((with_reducible refine lsG ?_); (intro L' hL'; (try simp only [List.set_cons_zero, List.set_cons_succ] at hL'); subst hL')) | ((with_reducible refine wpG ?_); (with_reducible refine Wp.imp ?_)) | fail)
local macro_rules | `(tactic| walk_at "rf") => `(tactic| first | ((with_reducible apply g_b2); (· with_reducible assumption); (· first | with_reducible assumption | rfl); (· first | with_reducible assumption | rfl)) | ((with_reducible refine r_dec (fun ht => ?_) (fun ht => ?_)) <;> first | (exact absurd (by with_reducible assumption) ht) | (exact absurd rfl ht) | (exact absurd ht (by with_reducible assumption)) | (exact absurd ht (by decide)) | (exfalso; omega) | (exfalso; simp only [List.length_cons, List.length_nil, List.length_map] at ht; omega) | skip) | fail)
theorem lcan_eq (hts : ∀ t ∈ ts, t.ok ts.length) {p q : Nat} (hp : p < ts.length) (hq : q < ts.length) : c__law_can_be_one [.tup (ts.map Th.d), nD p, nD q] S = .ok (.bl (!unlB ts p q)) S := ok_of (by
  apply u__law_can_be_one
  have e3 : oIx (.tup (ts.map Th.d)) (nD p) = some (ts.getD p .row).d := oIx_map hp .row
  have e4 : oIx (.tup (ts.map Th.d)) (nD q) = some (ts.getD q .row).d := oIx_map hq .row
  have hoT : (ts.getD p .row).ok ts.length := by
    rw [List.getD_eq_getElem?_getD, List.getElem?_eq_getElem hp]; exact hts _ (List.getElem_mem hp)
  have hoU : (ts.getD q .row).ok ts.length := by
    rw [List.getD_eq_getElem?_getD, List.getElem?_eq_getElem hq]; exact hts _ (List.getElem_mem hq)
  by_cases hpq : p = q
  · have hB : unlB ts p q = false := if_pos hpq
    rw [Th.d_eq] at e3 e4
    repeat' walk_at "rf"
    all_goals exact bl_g (by rw [hB]; rfl)
  have hB : unlB ts p q = unl2 (ts.getD p .row) (ts.getD q .row) := if_neg hpq
  rw [hB]
  generalize ts.getD p .row = T at e3 hoT ⊢
  generalize ts.getD q .row = U at e4 hoU ⊢
  rw [Th.d_eq] at e3 e4
  by_cases hn : T.nm = U.nm
  · by_cases h1 : T.nm = [114, 111, 119]
    · have hu : U.nm = [114, 111, 119] := hn ▸ h1
      have := Th.nm_row h1
      have := Th.nm_row hu
      subst T U
      repeat' walk_at "rf"
      all_goals exact ⟨rfl, rfl⟩
    · by_cases h2 : T.nm = [116, 117, 112, 108, 101]
      · obtain ⟨ps, rfl⟩ := Th.nm_tup h2
        obtain ⟨qs, rfl⟩ := Th.nm_tup (hn ▸ h2)
        simp only [Th.nm, Th.rs] at e3 e4
        have z1 : (ps.map nD).length ≤ sizeLine := Nat.le_trans (by rw [List.length_map]; exact hoT.1 : _ ≤ 1000) (by decide)
        have z2 : (qs.map nD).length ≤ sizeLine := Nat.le_trans (by rw [List.length_map]; exact hoU.1 : _ ≤ 1000) (by decide)
        repeat' walk_at "rf"
        all_goals exact bl_g (by simp [unl2]; omega)
      · have hne := (Th.eqd hoT hoU hn h2).1
        rw [unl_eq hn h1 h2, Bool.not_not]
        repeat' walk_at "rf"
        all_goals exact ⟨rfl, rfl⟩
  · rw [unl_ne hn]
    repeat' walk_at "rf"
    all_goals exact ⟨rfl, rfl⟩)
end
end
end Rf
set_option Elab.async false
set_option linter.all false
set_option maxRecDepth 100000
set_option maxHeartbeats 0
namespace Rf
open PySem PySem.Spec PyProof.Rows L2 TL Rf
theorem blsD_map {α : Type} (G : α → Bool) : ∀ xs : List α, blsD (xs.map fun x => D.bl (G x)) = some (xs.map G)
  | [] => rfl
  | x :: xs => by
    have := blsD_map G xs
    simp only [List.map_cons, blsD, this, Option.map_some]
theorem any_bls {α : Type} (G : α → Bool) (xs : List α) : bAny [.lst (xs.map fun x => D.bl (G x))] = some (.bl (xs.any G)) := by
  show (blsD _).map _ = _
  rw [blsD_map]
  show some (D.bl ((xs.map G).any id)) = _
  rw [List.any_map]; rfl
theorem all_bls {α : Type} (G : α → Bool) (xs : List α) : bAll [.lst (xs.map fun x => D.bl (G x))] = some (.bl (xs.all G)) := by
  show (blsD _).map _ = _
  rw [blsD_map]
  show some (D.bl ((xs.map G).all id)) = _
  rw [List.all_map]; rfl
def anyE (as : List An) : Bool := as.any fun x => decide (x.t = 0) && decide (x.a = x.b)
def anyA (as : List An) (p q : Nat) : Bool := as.any fun x => decide (x.t = 0) && abt x.a x.b p q
def lp (vs : List D) : Nat × Nat := rp (vs.getD (vs.length - 1) .non)
def clashB (ts : List Th) (as : List An) (vs : List D) : Bool := if vs.isEmpty = true then anyE as else unlB ts (lp vs).1 (lp vs).2 || anyA as (lp vs).1 (lp vs).2
theorem g_c1 {S : Sto} {o : List D → Option D} {x z : D} {Q : D → Prop} (e : o [x] = some z) (hx : deref S x = x) (k : Q z) : ∃ z, o ([x].map (deref S)) = some z ∧ Q z := by
  rw [List.map_cons, List.map_nil, hx]; exact ⟨z, e, k⟩
section
variable {S : Sto} {ts : List Th} {as : List An} {vs : List D}
section
local macro_rules | `(tactic| walk_at "rf") => `(tactic| first | (with_reducible exact rfl) | fail)
local macro_rules | `(tactic| walk_at "rf") => `(tactic| first | ((with_reducible refine anG ?_); ((with_reducible refine And.intro ?_ ?_); exact rfl)) | ((with_reducible refine anG ?_); ((with_reducible refine And.intro ?_ ?_); exact Nat.le_of_ble_eq_true rfl)) | fail)
local macro_rules | `(tactic| walk_at "rf") => `(tactic| first | ((with_reducible refine anG ?_); ((with_reducible apply r_isT); (· first | with_reducible assumption | exact rfl))) | ((with_reducible refine anG ?_); ((with_reducible apply r_isF); (· first | with_reducible assumption | exact rfl))) | fail)
local macro_rules | `(tactic| walk_at "rf") => `(tactic| first | ((with_reducible refine exG ?_); (with_reducible refine g_op ?_)) | ((with_reducible refine exG ?_); ((with_reducible apply Exists.intro); (fail_if_success (with_reducible refine g_og ?_ ?_)); (fail_if_success (with_reducible refine repG ?_)); (repeat (with_reducible apply Exists.intro)); refine And.intro rfl ?_)) | fail)
local macro_rules | `(tactic| walk_at "rf") => `(tactic| first | ((with_reducible refine wsG ?_); (with_reducible refine Ws.imp ?_)) | ((with_reducible refine exG ?_); ((with_reducible apply g_rng1); (· exact rfl); (· constructor <;> omega))) | fail)
local macro_rules | `(tactic| walk_at "rf") => `(tactic| first | ((with_reducible refine lsG ?_); (intro L' hL'; (try simp only [List.set_cons_zero, List.set_cons_succ] at hL'); subst hL')) | ((with_reducible refine wpG ?_); (with_reducible refine Wp.imp ?_)) | fail)
local macro_rules | `(tactic| walk_at "rf") => `(tactic| first | ((with_reducible apply g_c1); (· with_reducible assumption); (· first | with_reducible assumption | rfl)) | (with_reducible refine stopL_in ?_) | fail)
local macro_rules | `(tactic| walk_at "rf") => `(tactic| first | (with_reducible refine wp.eq (labout_eq _ _ _ _ _) ?_) | ((with_reducible apply r_isF); (· exact notF (by with_reducible assumption))) | fail)
local macro_rules | `(tactic| walk_at "rf") => `(tactic| first | ((with_reducible apply wp.eq); (· with_reducible assumption)) | ((with_reducible refine r_dec (fun ht => ?_) (fun ht => ?_)) <;> first | (exact absurd (by with_reducible assumption) ht) | (exact absurd rfl ht) | (exact absurd ht (by with_reducible assumption)) | (exact absurd ht (by decide)) | (exfalso; omega) | (exfalso; simp only [List.length_cons, List.length_nil, List.length_map] at ht; omega) | skip) | fail)
local macro_rules | `(tactic| walk_at "rf") => `(tactic| first | ((with_reducible apply g_b2); (· with_reducible assumption); (· first | with_reducible assumption | rfl); (· first | with_reducible assumption | rfl)) | ((with_reducible apply g_c2); (· with_reducible assumption); (· first | with_reducible assumption | rfl); (· first | with_reducible assumption | rfl)) | fail)
end
end
section
variable {S : Sto} {ts : List Th} {as : List An}
section
end
end
end Rf
set_option Elab.async false
set_option linter.all false
set_option maxRecDepth 100000
set_option maxHeartbeats 0
namespace Rf
open PySem PySem.Spec PyProof.Rows L2 TL Rf
def alph : List Nat := [97, 98, 99, 100, 101, 102, 103, 104, 105, 106, 107, 108, 109, 110, 111, 112, 113, 114, 115, 116, 117, 118, 119, 120, 121, 122, 48, 49, 50, 51, 52, 53, 54, 55, 56, 57]
theorem alph_lt : ∀ c ∈ alph, c < 0x110000 := by decide
theorem ix_str {x : List Nat} {k : Nat} (hz : x.length ≤ sizeLine) (h : k < x.length) : oIx (.str x) (.int (k : Int)) = some (.str [x[k]]) := by
  show (if x.length ≤ sizeLine then (L2.atI x (k : Int)).map _ else none) = _
  rw [if_pos hz, atI_some (List.getElem?_eq_getElem h)]; rfl
theorem ok_ofA {α : Type} {r : R α} {d : α} {S : Sto} (h : @wp noXP _ r fun a S' => a = d ∧ S' = S) : r = .ok d S := by
  obtain ⟨a, S', e, rfl, rfl⟩ := h.ex
  exact e
theorem okL_nd : ∀ ks : List Nat, okL (ks.map nD) = true
  | [] => rfl
  | _ :: ks => by rw [List.map_cons, okL, okL_nd ks]; rfl
theorem dpL_nd : ∀ ks : List Nat, dpL (ks.map nD) = 0
  | [] => rfl
  | _ :: ks => by rw [List.map_cons, dpL, dpL_nd ks]; rfl
theorem cEq_nilN (ks : List Nat) : cEq (.lst (ks.map nD)) (.lst []) = some (.bl (decide (ks = []))) := by
  have e : eqB (.lst (ks.map nD)) (.lst []) = if shp (.lst (ks.map nD)) && shp (.lst []) then some (eqvL (ks.map nD) []) else none := rfl
  unfold cEq
  rw [e, okD_shp (show okD (.lst (ks.map nD)) = true from okL_nd ks) (by rw [dp, dpL_nd]; decide)]
  cases ks <;> rfl
theorem atA {x0 x1 o : O} {T : Sto} : (x0 :: x1 :: (T ++ [o]))[T.length + 1 + 1]? = some o := by simp
theorem setA {x0 x1 o o' : O} {T : Sto} : (x0 :: x1 :: (T ++ [o])).set (T.length + 1 + 1) o' = x0 :: x1 :: (T ++ [o']) := by simp
theorem sl_z : 10000 < sizeLine := by decide
section
variable {n : Nat} {x0 x1 : O} {T S : Sto}
section
local macro_rules | `(tactic| walk_at "rf") => `(tactic| first | ((with_reducible refine exG ?_); ((with_reducible apply Exists.intro); (fail_if_success (with_reducible refine g_og ?_ ?_)); (fail_if_success (with_reducible refine repG ?_)); (repeat (with_reducible apply Exists.intro)); refine And.intro rfl ?_)) | ((with_reducible refine anG ?_); ((with_reducible refine And.intro ?_ ?_); exact Nat.le_of_ble_eq_true rfl)) | fail)
local macro_rules | `(tactic| walk_at "rf") => `(tactic| first | ((with_reducible refine exG ?_); ((with_reducible apply g_rng1); (· exact rfl); (· constructor <;> omega))) | ((with_reducible refine exG ?_); (with_reducible refine g_op ?_)) | fail)
local macro_rules | `(tactic| walk_at "rf") => `(tactic| first | ((with_reducible refine wpG ?_); ((with_reducible apply w_one3); (· assumption); (· first | assumption | (intro h; cases h)); (· first | assumption | exact Nat.le_of_ble_eq_true rfl); intro x x0 x1 hx hd)) | ((with_reducible refine wsG ?_); (with_reducible refine Ws.imp ?_)) | fail)
local macro_rules | `(tactic| walk_at "rf") => `(tactic| first | ((with_reducible refine wpG ?_); (with_reducible refine Wp.imp ?_)) | ((with_reducible refine wpG ?_); ((with_reducible apply w_draw3); (· assumption); (· first | decide | omega); (· first | decide | assumption | exact Nat.lt_of_lt_of_le (lgi (k := 64) (by omega) (by decide)) (by decide)); intro r x0 x1 h0 h1 hd)) | fail)
local macro_rules | `(tactic| walk_at "rf") => `(tactic| first | ((with_reducible refine r_dec (fun ht => ?_) (fun ht => ?_)) <;> first | (exact absurd (by with_reducible assumption) ht) | (exact absurd rfl ht) | (exact absurd ht (by with_reducible assumption)) | (exact absurd ht (by decide)) | (exfalso; omega) | skip) | ((with_reducible refine lsG ?_); (intro L' hL'; (try simp only [List.set_cons_zero, List.set_cons_succ] at hL'); subst hL')) | fail)
theorem lc_fix {S : Sto} {all : List D} {te : EM} {tt : Ls → Sto → R Bool} {Lw : Ls} {t : Tg} {PL : List D → Sto → Prop} {N : Nat} (hz : N < sizeLine) (p : Nat → Bool)
    (step : ∀ k, k < N → ∃ L1, tgA t (nD k) Lw = some L1 ∧ tt L1 S = .ok (p k) S ∧ te L1 S = .ok (nD k) S)
    (done : ∀ ks : List Nat, ks.length ≤ N → (∀ k ∈ ks, k < N ∧ p k = true) → (∀ k < N, p k = true → k ∈ ks) → PL (ks.map nD) S) : wp (lcLoop none all t tt te Lw (rngI 0 N) S []) PL := by
  refine lc_rng (fun j m acc S' => Iv (∃ (i : Nat) (ks : List Nat), j = (i : Int) ∧ i + m = N ∧ S' = S ∧ acc = ks.map nD ∧ ks.length ≤ i ∧ (∀ k ∈ ks, k < N ∧ p k = true) ∧ ∀ k < i, p k = true → k ∈ ks)) ?_ ?_ 0 N S [] ⟨0, [], rfl, by omega, rfl, rfl, Nat.le_refl _, by simp, fun k hk => absurd hk (Nat.not_lt_zero _)⟩
  · rintro j m acc S' ⟨i, ks, rfl, him, rfl, rfl, hkl, hk1, hk2⟩
    obtain ⟨L1, e1, e2, e3⟩ := step i (by omega)
    refine ⟨L1, e1, wp.eq e2 ?_⟩
    cases hp : p i with
    | true =>
      rw [if_pos rfl]
      refine wp.eq e3 ⟨by rw [List.length_map]; omega, i + 1, ks ++ [i], by omega, by omega, rfl, by rw [List.map_append]; rfl, by rw [List.length_append, List.length_singleton]; omega, fun k hk => ?_, fun k hk hpk => ?_⟩
      · rcases List.mem_append.mp hk with z | z
        · exact hk1 k z
        · rw [List.mem_singleton.mp z]; exact ⟨by omega, hp⟩
      · rcases Nat.lt_succ_iff_lt_or_eq.mp hk with z | z
        · exact List.mem_append_left _ (hk2 k z hpk)
        · rw [z]; exact List.mem_append_right _ (List.mem_singleton.mpr rfl)
    | false =>
      rw [if_neg Bool.false_ne_true]
      exact ⟨i + 1, ks, by omega, by omega, rfl, rfl, by omega, hk1, fun k hk hpk => by
        rcases Nat.lt_succ_iff_lt_or_eq.mp hk with z | z
        · exact hk2 k z hpk
        · subst z; rw [hp] at hpk; cases hpk⟩
  · rintro j S' acc ⟨i, ks, rfl, him, rfl, rfl, hkl, hk1, hk2⟩
    obtain rfl : i = N := by omega
    exact done ks hkl hk1 hk2
end
section
local macro_rules | `(tactic| walk_at "rf") => `(tactic| first | ((with_reducible refine anG ?_); ((with_reducible refine And.intro ?_ ?_); (· ((with_reducible refine ltG ?_); (simp only [List.length_map, List.length_append, List.length_replicate, List.length_cons, List.length_nil]; omega))))) | (with_reducible exact rfl) | fail)
local macro_rules | `(tactic| walk_at "rf") => `(tactic| first | ((with_reducible refine anG ?_); ((with_reducible refine And.intro ?_ ?_); exact rfl)) | ((with_reducible refine anG ?_); ((with_reducible refine And.intro ?_ ?_); exact Nat.le_of_ble_eq_true rfl)) | fail)
local macro_rules | `(tactic| walk_at "rf") => `(tactic| first | ((with_reducible refine exG ?_); ((with_reducible apply Exists.intro); (fail_if_success (with_reducible refine g_og ?_ ?_)); (fail_if_success (with_reducible refine repG ?_)); (repeat (with_reducible apply Exists.intro)); refine And.intro rfl ?_)) | ((with_reducible refine anG ?_); ((with_reducible refine r_dec (fun ht => ?_) (fun ht => ?_)) <;> first | (exfalso; omega) | skip)) | fail)
local macro_rules | `(tactic| walk_at "rf") => `(tactic| first | ((with_reducible refine exG ?_); (with_reducible refine g_op ?_)) | ((with_reducible refine exG ?_); ((with_reducible refine g_og ?_ ?_); (· first | assumption | decide | omega | exact Nat.le_of_ble_eq_true rfl | (simp only [List.length_append, List.length_map, List.length_replicate, List.length_cons, List.length_nil]; omega)))) | fail)
local macro_rules | `(tactic| walk_at "rf") => `(tactic| first | ((with_reducible refine exG ?_); ((with_reducible apply g_rng1); (· exact rfl); (· constructor <;> omega))) | ((with_reducible refine exG ?_); ((with_reducible apply g_as); (· with_reducible assumption))) | fail)
local macro_rules | `(tactic| walk_at "rf") => `(tactic| first | ((with_reducible refine wpG ?_); ((with_reducible apply w_one3); (· assumption); (· first | assumption | (intro h; cases h)); (· first | assumption | exact Nat.le_of_ble_eq_true rfl); intro x x0 x1 hx hd)) | ((with_reducible refine wsG ?_); (with_reducible refine Ws.imp ?_)) | fail)
local macro_rules | `(tactic| walk_at "rf") => `(tactic| first | ((with_reducible refine wpG ?_); (with_reducible refine Wp.imp ?_)) | ((with_reducible refine wpG ?_); ((with_reducible apply w_draw3); (· assumption); (· first | decide | omega); (· first | decide | assumption | exact Nat.lt_of_lt_of_le (lgi (k := 64) (by omega) (by decide)) (by decide)); intro r x0 x1 h0 h1 hd)) | fail)
local macro_rules | `(tactic| walk_at "rf") => `(tactic| first | ((with_reducible apply g_b2); (· with_reducible assumption); (· first | with_reducible assumption | rfl); (· first | with_reducible assumption | rfl)) | ((with_reducible refine lsG ?_); (intro L' hL'; (try simp only [List.set_cons_zero, List.set_cons_succ] at hL'); subst hL')) | fail)
local macro_rules | `(tactic| walk_at "rf") => `(tactic| first | ((with_reducible apply g_drL); (· with_reducible exact atA)) | ((with_reducible apply g_dr1); (· with_reducible exact atA)) | fail)
end
section
local macro_rules | `(tactic| walk_at "rf") => `(tactic| first | ((with_reducible refine And.intro ?_ ?_); (· with_reducible exact atA)) | ((with_reducible apply Exists.intro); (with_reducible refine And.intro ?_ ?_); (· with_reducible exact atA)) | fail)
local macro_rules | `(tactic| walk_at "rf") => `(tactic| first | ((with_reducible refine anG ?_); ((with_reducible refine And.intro ?_ ?_); exact Nat.le_of_ble_eq_true rfl)) | ((with_reducible apply g_dr1); (· with_reducible exact atA)) | fail)
local macro_rules | `(tactic| walk_at "rf") => `(tactic| first | ((with_reducible refine exG ?_); ((with_reducible apply Exists.intro); (fail_if_success (with_reducible refine g_og ?_ ?_)); (fail_if_success (with_reducible refine repG ?_)); (repeat (with_reducible apply Exists.intro)); refine And.intro rfl ?_)) | ((with_reducible refine anG ?_); ((with_reducible refine And.intro ?_ ?_); (· with_reducible assumption))) | fail)
local macro_rules | `(tactic| walk_at "rf") => `(tactic| first | ((with_reducible refine ntG ?_); (intro n hn; (try simp only [List.length_cons, List.length_nil, Nat.zero_add, Nat.reduceAdd] at hn); subst hn)) | ((with_reducible refine exG ?_); ((with_reducible apply g_rng1); (· exact rfl); (· constructor <;> omega))) | fail)
local macro_rules | `(tactic| walk_at "rf") => `(tactic| first | ((with_reducible refine wsG ?_); (with_reducible refine Ws.imp ?_)) | ((with_reducible refine stG ?_); (intro S' hS'; (try simp only [List.cons_append, List.nil_append, List.set_cons_zero, List.set_cons_succ] at hS'); subst hS')) | fail)
local macro_rules | `(tactic| walk_at "rf") => `(tactic| first | ((with_reducible refine lsG ?_); (intro L' hL'; (try simp only [List.set_cons_zero, List.set_cons_succ] at hL'); subst hL')) | ((with_reducible refine wpG ?_); (with_reducible refine Wp.imp ?_)) | fail)
theorem Th.ok.le {t : Th} {n m : Nat} (h : t.ok n) (hm : n ≤ m) : t.ok m := by
  cases t with
  | tup ps => exact ⟨h.1, fun p hp => Nat.lt_of_lt_of_le (h.2 p hp) hm⟩
  | word x => exact h
  | _ => exact trivial
/-- drawn things -/
structure Ths (ts : List Th) : Prop where
  ok : ∀ t ∈ ts, t.ok ts.length
  ps : ∀ t ∈ ts, ∀ ps, t = .tup ps → ps.length ≤ 3
theorem Ths.app {ts : List Th} {t : Th} (h : Ths ts) (h1 : t.ok ts.length) (h2 : ∀ ps, t = .tup ps → ps.length ≤ 3) : Ths (ts ++ [t]) := by
  have hl : (ts ++ [t]).length = ts.length + 1 := by rw [List.length_append, List.length_singleton]
  refine ⟨fun u hu => ?_, fun u hu => ?_⟩
  · rcases List.mem_append.mp hu with z | z
    · exact (h.ok u z).le (by omega)
    · rw [List.mem_singleton.mp z]; exact h1.le (by omega)
  · rcases List.mem_append.mp hu with z | z
    · exact h.ps u z
    · rw [List.mem_singleton.mp z]; exact h2
end
end
end Rf
set_option Elab.async false
set_option linter.all false
set_option maxRecDepth 100000
set_option maxHeartbeats 0
namespace Rf
open PySem PySem.Spec PyProof.Rows L2 TL Rf
section
variable {n : Nat} {x0 x1 : O} {T S : Sto} {ts : List Th}
theorem last_c {x : D} {xs : List D} : ∃ z, oIx (.tup (x :: xs)) (.int (-1)) = some z := by
  show ∃ z, L2.atI (x :: xs) (-1) = some z
  unfold L2.atI ixN
  rw [if_neg (by decide), if_pos (by rw [List.length_cons]; omega)]
  show ∃ z, (x :: xs)[(((x :: xs).length : Int) + -1).toNat]? = some z
  exact ⟨_, List.getElem?_eq_getElem (by rw [List.length_cons]; omega)⟩
section
local macro_rules | `(tactic| walk_at "rf") => `(tactic| first | ((with_reducible refine anG ?_); ((with_reducible refine And.intro ?_ ?_); exact Nat.le_of_ble_eq_true rfl)) | fail)
local macro_rules | `(tactic| walk_at "rf") => `(tactic| first | ((with_reducible refine anG ?_); ((with_reducible apply r_isF); (· first | with_reducible assumption | exact rfl))) | ((with_reducible refine anG ?_); ((with_reducible refine And.intro ?_ ?_); (· with_reducible assumption))) | fail)
local macro_rules | `(tactic| walk_at "rf") => `(tactic| first | ((with_reducible refine exG ?_); ((with_reducible apply Exists.intro); (fail_if_success (with_reducible refine g_og ?_ ?_)); (fail_if_success (with_reducible refine repG ?_)); (repeat (with_reducible apply Exists.intro)); refine And.intro rfl ?_)) | ((with_reducible refine anG ?_); ((with_reducible apply r_isT); (· first | with_reducible assumption | exact rfl))) | fail)
local macro_rules | `(tactic| walk_at "rf") => `(tactic| first | ((with_reducible refine exG ?_); ((with_reducible apply g_rng1); (· exact rfl); (· constructor <;> omega))) | ((with_reducible refine exG ?_); (with_reducible refine g_op ?_)) | fail)
local macro_rules | `(tactic| walk_at "rf") => `(tactic| first | ((with_reducible refine wpG ?_); ((with_reducible apply w_one3); (· assumption); (· first | assumption | (intro h; cases h)); (· first | assumption | exact Nat.le_of_ble_eq_true rfl); intro x x0 x1 hx hd)) | ((with_reducible refine wsG ?_); (with_reducible refine Ws.imp ?_)) | fail)
local macro_rules | `(tactic| walk_at "rf") => `(tactic| first | ((with_reducible refine wpG ?_); (with_reducible refine Wp.imp ?_)) | ((with_reducible refine wpG ?_); ((with_reducible apply w_draw3); (· assumption); (· first | decide | omega); (· first | decide | assumption | exact Nat.lt_of_lt_of_le (lgi (k := 64) (by omega) (by decide)) (by decide)); intro r x0 x1 h0 h1 hd)) | fail)
local macro_rules | `(tactic| walk_at "rf") => `(tactic| first | (with_reducible refine stopL_in ?_) | ((with_reducible refine lsG ?_); (intro L' hL'; (try simp only [List.set_cons_zero, List.set_cons_succ] at hL'); subst hL')) | fail)
local macro_rules | `(tactic| walk_at "rf") => `(tactic| first | ((with_reducible refine r_dec (fun ht => ?_) (fun ht => ?_)) <;> first | (exact absurd (by with_reducible assumption) ht) | (exact absurd rfl ht) | (exact absurd ht (by with_reducible assumption)) | (exact absurd ht (by decide)) | (exfalso; omega) | skip) | ((with_reducible apply g_b2); (· with_reducible assumption); (· first | with_reducible assumption | rfl); (· first | with_reducible assumption | rfl)) | fail)
theorem like_ok (hn : ts.length < 1000) (hts : Ths ts) {p : Nat} (hp : p < ts.length) : @wp noXP _ (c__law_like [.tup (ts.map Th.d), nD p] S) fun d S' => Iv (S' = S ∧ ∃ ks : List Nat, d = .lst (ks.map nD) ∧ ks.length ≤ ts.length ∧ ks ≠ [] ∧ ∀ k ∈ ks, k < ts.length) := by
  apply u__law_like
  have hlm : (ts.map Th.d).length = ts.length := List.length_map _
  have hlz : (ts.map Th.d).length ≤ sizeLine := by rw [hlm]; exact Nat.le_trans (by omega : _ ≤ 1000) (by decide)
  have hlz2 : (ts.map Th.d).length < 1000 := by rw [hlm]; exact hn
  have hm : ∀ {k : Nat}, k < ts.length → ts.getD k .row ∈ ts := fun {k} h => by
    rw [List.getD_eq_getElem?_getD, List.getElem?_eq_getElem h]; exact List.getElem_mem h
  have e3 : oIx (.tup (ts.map Th.d)) (nD p) = some (ts.getD p .row).d := oIx_map hp .row
  by_cases ht : (ts.getD p .row).nm = [116, 117, 112, 108, 101]
  · obtain ⟨qs, hT⟩ := Th.nm_tup ht
    rw [hT] at e3
    simp only [Th.d] at e3
    have e5 : oIx (.tup [.str [116, 117, 112, 108, 101], .tup (qs.map nD)]) (.int (-1)) = some (.tup (qs.map nD)) := rfl
    repeat' walk_at "rf"
    show wps _ _
    refine wps_rng (fun c m L S' => Iv (∃ (i : Nat) (ks : List Nat) (z : LV), c = (i : Int) ∧ i + m = ts.length ∧ S' = S ∧ L = [.v (.tup (ts.map Th.d)), .v (nD p), .o (.lst (ks.map nD)), .v (.str [116, 117, 112, 108, 101]), .v (.tup (qs.map nD)), z] ∧ ks.length ≤ i ∧ (∀ k ∈ ks, k < ts.length) ∧ (p < i → p ∈ ks))) ?_ ?_ 0 _ _ _ ⟨0, [], _, rfl, by rw [hlm]; omega, rfl, rfl, Nat.le_refl _, by simp, fun h => absurd h (Nat.not_lt_zero _)⟩
    · rintro c m L S' ⟨i, ks, z, rfl, him, rfl, rfl, hkl, hk1, hk2⟩
      have hi : i < ts.length := by omega
      have hkz : (ks.map nD).length < sizeLine := by have := sl_z; rw [List.length_map]; omega
      have e4 : oIx (.tup (ts.map Th.d)) (nD i) = some (ts.getD i .row).d := oIx_map hi .row
      refine tgX _ rfl ?_
      by_cases hu : (ts.getD i .row).nm = [116, 117, 112, 108, 101]
      · obtain ⟨ps, hU⟩ := Th.nm_tup hu
        rw [hU] at e4
        simp only [Th.d] at e4
        have z1 : (ps.map nD).length ≤ sizeLine := Nat.le_trans (by rw [List.length_map]; exact hts.ps _ (hm hi) ps hU : _ ≤ 3) (by decide)
        have z2 : (qs.map nD).length ≤ sizeLine := Nat.le_trans (by rw [List.length_map]; exact hts.ps _ (hm hp) qs hT : _ ≤ 3) (by decide)
        clear e3 hu ht e5
        repeat' walk_at "rf"
        · exact ⟨i + 1, ks ++ [i], _, by omega, by omega, rfl, by rw [List.map_append]; rfl, by rw [List.length_append, List.length_singleton]; omega, fun k hk => by
            rcases List.mem_append.mp hk with z | z
            · exact hk1 k z
            · rw [List.mem_singleton.mp z]; omega, fun h => by
            rcases Nat.lt_succ_iff_lt_or_eq.mp h with z | z
            · exact List.mem_append_left _ (hk2 z)
            · rw [z]; exact List.mem_append_right _ (List.mem_singleton.mpr rfl)⟩
        · rename_i hne
          have hip : i ≠ p := fun e => by
            subst e
            rw [hT] at hU
            cases hU
            exact hne rfl
          exact ⟨i + 1, ks, _, by omega, by omega, rfl, rfl, by omega, hk1, fun h => hk2 (by omega)⟩
      · rw [Th.d_eq] at e4
        have hip : i ≠ p := fun e => hu (by rw [e]; exact ht)
        clear e3 ht e5
        repeat' walk_at "rf"
        exact ⟨i + 1, ks, _, by omega, by omega, rfl, rfl, by omega, hk1, fun h => hk2 (by omega)⟩
    · rintro c L S' ⟨i, ks, z, rfl, him, rfl, rfl, hkl, hk1, hk2⟩
      repeat' walk_at "rf"
      exact ⟨rfl, ks, rfl, by omega, List.ne_nil_of_mem (hk2 (by omega)), hk1⟩
  · have e3' := e3
    rw [Th.d_eq] at e3'
    obtain ⟨z0, e5⟩ := last_c (x := .str (ts.getD p .row).nm) (xs := (ts.getD p .row).rs)
    repeat' walk_at "rf"
    show wps _ _
    refine wps_rng (fun c m L S' => Iv (∃ (i : Nat) (ks : List Nat) (z : LV), c = (i : Int) ∧ i + m = ts.length ∧ S' = S ∧ L = [.v (.tup (ts.map Th.d)), .v (nD p), .o (.lst (ks.map nD)), .v (.str (ts.getD p .row).nm), .v (z0), z] ∧ ks.length ≤ i ∧ (∀ k ∈ ks, k < ts.length) ∧ (p < i → p ∈ ks))) ?_ ?_ 0 _ _ _ ⟨0, [], _, rfl, by rw [hlm]; omega, rfl, rfl, Nat.le_refl _, by simp, fun h => absurd h (Nat.not_lt_zero _)⟩
    · rintro c m L S' ⟨i, ks, z, rfl, him, rfl, rfl, hkl, hk1, hk2⟩
      have hi : i < ts.length := by omega
      have hkz : (ks.map nD).length < sizeLine := by have := sl_z; rw [List.length_map]; omega
      have e4 : oIx (.tup (ts.map Th.d)) (nD i) = some (ts.getD i .row).d := oIx_map hi .row
      refine tgX _ rfl ?_
      rw [Th.d_eq] at e4
      by_cases hu : (ts.getD i .row).nm = (ts.getD p .row).nm
      · clear e3 e5 e3'
        repeat' walk_at "rf"
        exact ⟨i + 1, ks ++ [i], _, by omega, by omega, rfl, by rw [List.map_append]; rfl, by rw [List.length_append, List.length_singleton]; omega, fun k hk => by
            rcases List.mem_append.mp hk with z | z
            · exact hk1 k z
            · rw [List.mem_singleton.mp z]; omega, fun h => by
            rcases Nat.lt_succ_iff_lt_or_eq.mp h with z | z
            · exact List.mem_append_left _ (hk2 z)
            · rw [z]; exact List.mem_append_right _ (List.mem_singleton.mpr rfl)⟩
      · have hip : i ≠ p := fun e => hu (by rw [e])
        clear e3 e5 e3'
        repeat' walk_at "rf"
        exact ⟨i + 1, ks, _, by omega, by omega, rfl, rfl, by omega, hk1, fun h => hk2 (by omega)⟩
    · rintro c L S' ⟨i, ks, z, rfl, him, rfl, rfl, hkl, hk1, hk2⟩
      repeat' walk_at "rf"
      exact ⟨rfl, ks, rfl, by omega, List.ne_nil_of_mem (hk2 (by omega)), hk1⟩
theorem pair_ok (hn : ts.length < 1000) (h0 : ts ≠ []) (hts : Ths ts) (h : DkE (n + 4) x0 x1) : @wp noXP _ (c__law_pair [.obj 1, .tup (ts.map Th.d)] (x0 :: x1 :: T)) fun d S' => Iv (∃ (y0 y1 : O) (a b : Nat), S' = y0 :: y1 :: T ∧ DkE n y0 y1 ∧ d = .tup [nD a, nD b] ∧ a < ts.length ∧ b < ts.length) := by
  have hlm : (ts.map Th.d).length = ts.length := List.length_map _
  have hlz : (ts.map Th.d).length ≤ sizeLine := by rw [hlm]; exact Nat.le_trans (by omega : _ ≤ 1000) (by decide)
  have hlz2 : (ts.map Th.d).length < 1000 := by rw [hlm]; exact hn
  have hlz3 : 0 < (ts.map Th.d).length := by rw [hlm]; exact List.length_pos_iff.mpr h0
  apply u__law_pair
  repeat' walk_at "rf"
  · rename_i r y0 y1 h1 h2 hd r2 z0 z1 h3 h4 hd2 ht
    obtain ⟨p, rfl⟩ : ∃ p : Nat, r = (p : Int) := ⟨r.toNat, by omega⟩
    have hp : p < ts.length := by omega
    refine (like_ok (S := z0 :: z1 :: T) hn hts hp).mono fun d S' ⟨hS, ks, hd3, hkl, hkn, hk⟩ => ?_
    subst hS hd3
    have hkz : (ks.map nD).length < 2 ^ 40 := by rw [List.length_map]; exact Nat.lt_of_le_of_lt hkl (Nat.lt_trans hn (by decide))
    have hkn' : ks.map nD ≠ [] := fun e => hkn (List.map_eq_nil_iff.mp e)
    repeat' walk_at "rf"
    rename_i x w0 w1 hx hd4
    obtain ⟨q, hq, rfl⟩ := List.mem_map.mp hx
    exact ⟨w0, w1, p, q, rfl, hd4.le (by omega), rfl, hp, hk q hq⟩
  · rename_i r y0 y1 h1 h2 hd r2 z0 z1 h3 h4 hd2 ht r3 w0 w1 h5 h6 hd4
    obtain ⟨p, rfl⟩ : ∃ p : Nat, r = (p : Int) := ⟨r.toNat, by omega⟩
    obtain ⟨q, rfl⟩ : ∃ q : Nat, r3 = (q : Int) := ⟨r3.toNat, by omega⟩
    exact ⟨w0, w1, p, q, rfl, hd4.le (by omega), rfl, by omega, by omega⟩
def An.ok (n : Nat) (x : An) : Prop := x.a < n ∧ x.b < n
end
end
end Rf
set_option Elab.async false
set_option linter.all false
set_option maxRecDepth 100000
set_option maxHeartbeats 0
namespace Rf
open PySem PySem.Spec PyProof.Rows L2 TL Rf
/-- the least thing known to be one with t -/
def root (rs : List Nat) (t : Nat) : Nat := if h : rs.getD t t < t then root rs (rs.getD t t) else t
termination_by t
theorem root_le (rs : List Nat) : ∀ t, root rs t ≤ t := by
  intro t
  induction t using Nat.strongRecOn with
  | _ t ih =>
    unfold root
    split
    · rename_i h
      exact Nat.le_trans (ih _ h) (Nat.le_of_lt h)
    · exact Nat.le_refl _
/-- every root pointer leads down -/
def RsOk (rs : List Nat) (n : Nat) : Prop := rs.length = n ∧ ∀ i, rs.getD i i ≤ i
theorem root_step {rs : List Nat} {t : Nat} (h : rs.getD t t < t) : root rs t = root rs (rs.getD t t) := by
  rw [root, dif_pos h]
theorem root_fix {rs : List Nat} {t : Nat} (h : rs.getD t t = t) : root rs t = t := by
  rw [root, dif_neg (by omega)]
theorem root_root {rs : List Nat} {n : Nat} (R : RsOk rs n) : ∀ t, rs.getD (root rs t) (root rs t) = root rs t := by
  intro t
  induction t using Nat.strongRecOn with
  | _ t ih =>
    by_cases h : rs.getD t t < t
    · rw [root_step h]; exact ih _ h
    · have h2 : rs.getD t t = t := by have := R.2 t; omega
      rw [root_fix h2]; exact h2
theorem root_idem {rs : List Nat} {n : Nat} (R : RsOk rs n) (t : Nat) : root rs (root rs t) = root rs t := root_fix (root_root R t)
theorem getD_set {rs : List Nat} {i j v d : Nat} (hj : j < rs.length) : (rs.set j v).getD i d = if i = j then v else rs.getD i d := by
  rw [List.getD_eq_getElem?_getD, List.getD_eq_getElem?_getD, List.getElem?_set]
  by_cases h : i = j
  · subst h; simp [hj]
  · rw [if_neg h, if_neg (Ne.symm h)]
theorem root_set {rs : List Nat} {n x y : Nat} (R : RsOk rs n) (hx : rs.getD x x = x) (hy : rs.getD y y = y) (hxy : y < x) (hn : x < n) : RsOk (rs.set x y) n ∧ ∀ t, root (rs.set x y) t = if root rs t = x then y else root rs t := by
  have hl : x < rs.length := by rw [R.1]; exact hn
  refine ⟨⟨by rw [List.length_set]; exact R.1, fun i => ?_⟩, fun t => ?_⟩
  · rw [getD_set hl]
    split
    · omega
    · exact R.2 i
  · induction t using Nat.strongRecOn with
    | _ t ih =>
      by_cases htx : t = x
      · subst htx
        have h1 : (rs.set t y).getD t t = y := by rw [getD_set hl, if_pos rfl]
        rw [root_step (by rw [h1]; exact hxy), h1, root_fix hx, if_pos rfl]
        have h2 : (rs.set t y).getD y y = y := by rw [getD_set hl, if_neg (by omega)]; exact hy
        exact root_fix h2
      · have h1 : (rs.set x y).getD t t = rs.getD t t := by rw [getD_set hl, if_neg htx]
        by_cases h : rs.getD t t < t
        · rw [root_step (by rw [h1]; exact h), h1, ih _ h, root_step h]
        · have h2 : rs.getD t t = t := by have := R.2 t; omega
          rw [root_fix (by rw [h1]; exact h2), root_fix h2, if_neg htx]
/-- the two are known to be one -/
def One (rs : List Nat) (p q : Nat) : Prop := root rs p = root rs q
instance (rs : List Nat) (p q : Nat) : Decidable (One rs p q) := inferInstanceAs (Decidable (_ = _))
theorem one_set {rs : List Nat} {n a b : Nat} (R : RsOk rs n) (ha : a < n) (hb : b < n) (hab : ¬ One rs a b) :
    RsOk (rs.set (max (root rs a) (root rs b)) (min (root rs a) (root rs b))) n ∧ ∀ p q, One (rs.set (max (root rs a) (root rs b)) (min (root rs a) (root rs b))) p q ↔ (One rs p q ∨ (One rs p a ∧ One rs q b) ∨ (One rs p b ∧ One rs q a)) := by
  have hab' : root rs a ≠ root rs b := hab
  have ra := root_root R a
  have rb := root_root R b
  have la := root_le rs a
  have lb := root_le rs b
  have hlt : min (root rs a) (root rs b) < max (root rs a) (root rs b) := by omega
  have hx : rs.getD (max (root rs a) (root rs b)) (max (root rs a) (root rs b)) = max (root rs a) (root rs b) := by
    rcases Nat.le_total (root rs a) (root rs b) with h | h
    · rw [Nat.max_eq_right h]; exact rb
    · rw [Nat.max_eq_left h]; exact ra
  have hy : rs.getD (min (root rs a) (root rs b)) (min (root rs a) (root rs b)) = min (root rs a) (root rs b) := by
    rcases Nat.le_total (root rs a) (root rs b) with h | h
    · rw [Nat.min_eq_left h]; exact ra
    · rw [Nat.min_eq_right h]; exact rb
  obtain ⟨h1, h2⟩ := root_set R hx hy hlt (by omega)
  refine ⟨h1, fun p q => ?_⟩
  unfold One
  rw [h2, h2]
  generalize root rs a = x at *
  generalize root rs b = y at *
  generalize root rs p = u at *
  generalize root rs q = v at *
  split <;> split <;> omega
inductive Wy where
  | asked (i : Nat) | part (e i : Nat)
  deriving DecidableEq, Inhabited
structure Ed where
  a : Nat
  b : Nat
  w : Wy
  deriving DecidableEq, Inhabited
def Wy.d : Wy → D
  | .asked i => .tup [.str sA, nD i]
  | .part e i => .tup [.str sP, nD e, nD i]
def Ed.d (x : Ed) : D := .tup [nD x.a, nD x.b, x.w.d]
/-- the parts of a tuple -/
def Th.pts : Th → List Nat
  | .tup ps => ps
  | _ => []
def thg (ts : List Th) (i : Nat) : Th := ts.getD i .row
/-- a division that the descriptions and the parts allow -/
structure Poss (ts : List Th) (M : Nat → Nat → Prop) : Prop where
  rf : ∀ p, M p p
  sy : ∀ {p q}, M p q → M q p
  tr : ∀ {p q r}, M p q → M q r → M p r
  like : ∀ {p q}, p < ts.length → q < ts.length → M p q → unlB ts p q = false
  part : ∀ {p q}, p < ts.length → q < ts.length → M p q → ∀ (i x y : Nat), (thg ts p).pts[i]? = some x → (thg ts q).pts[i]? = some y → M x y
/-- the division has the answers yes -/
def Yes (as : List An) (M : Nat → Nat → Prop) : Prop := ∀ x ∈ as, x.t = 1 → M x.a x.b
def No (as : List An) (M : Nat → Nat → Prop) : Prop := ∀ x ∈ as, x.t = 0 → ¬ M x.a x.b
/-- the reason of an edge is right -/
def WyOk (ts : List Th) (as : List An) (es : List Ed) (k : Nat) (e : Ed) : Prop := match e.w with
  | .asked i => ∃ x, as[i]? = some x ∧ x.t = 1 ∧ x.a = e.a ∧ x.b = e.b
  | .part j i => j < k ∧ ∃ f, es[j]? = some f ∧ (thg ts f.a).pts[i]? = some e.a ∧ (thg ts f.b).pts[i]? = some e.b
/-- R is what follows; es: the pairs by which it was got; wt: what is waiting -/
structure Cl (ts : List Th) (as : List An) (R : Nat → Nat → Prop) (es wt : List Ed) : Prop where
  bd : ∀ e ∈ es, e.a < ts.length ∧ e.b < ts.length
  wb : ∀ e ∈ wt, e.a < ts.length ∧ e.b < ts.length
  one : ∀ e ∈ es, R e.a e.b
  wy : ∀ (k : Nat) (e : Ed), es[k]? = some e → WyOk ts as es k e
  ww : ∀ e ∈ wt, WyOk ts as es es.length e
  cl : ∀ e ∈ es, ∀ (i x y : Nat), (thg ts e.a).pts[i]? = some x → (thg ts e.b).pts[i]? = some y → R x y ∨ ∃ f ∈ wt, f.a = x ∧ f.b = y
  ye : ∀ x ∈ as, x.t = 1 → R x.a x.b ∨ ∃ f ∈ wt, f.a = x.a ∧ f.b = x.b
  sp : ∀ M : Nat → Nat → Prop, (∀ p, M p p) → (∀ {p q}, M p q → M q p) → (∀ {p q r}, M p q → M q r → M p r) → (∀ e ∈ es, M e.a e.b) → ∀ p q, R p q → M p q
/-- the state of a Sameness is right -/
structure Sv (ts : List Th) (as : List An) (rs : List Nat) (es wt : List Ed) : Prop where
  rk : RsOk rs ts.length
  lk : ∀ e ∈ es, unlB ts e.a e.b = false
  c : Cl ts as (One rs) es wt
section
variable {ts : List Th} {as : List An} {R : Nat → Nat → Prop} {es wt : List Ed} {M : Nat → Nat → Prop}
/-- every division with the answers yes has the edges -/
theorem Cl.edges (I : Cl ts as R es wt) (P : Poss ts M) (Y : Yes as M) : ∀ (k : Nat) (e : Ed), es[k]? = some e → M e.a e.b := by
  intro k
  induction k using Nat.strongRecOn with
  | _ k ih =>
    intro e he
    have hw := I.wy k e he
    unfold WyOk at hw
    split at hw
    · obtain ⟨x, hx, ht, ha, hb⟩ := hw
      rw [← ha, ← hb]
      exact Y x (List.mem_of_getElem? hx) ht
    · obtain ⟨hj, f, hf, h1, h2⟩ := hw
      obtain ⟨b1, b2⟩ := I.bd f (List.mem_of_getElem? hf)
      exact P.part b1 b2 (ih _ hj f hf) _ _ _ h1 h2
theorem Cl.wait (I : Cl ts as R es wt) (P : Poss ts M) (Y : Yes as M) : ∀ e ∈ wt, M e.a e.b := by
  intro e he
  have hw := I.ww e he
  unfold WyOk at hw
  split at hw
  · obtain ⟨x, hx, ht, ha, hb⟩ := hw
    rw [← ha, ← hb]
    exact Y x (List.mem_of_getElem? hx) ht
  · obtain ⟨hj, f, hf, h1, h2⟩ := hw
    obtain ⟨b1, b2⟩ := I.bd f (List.mem_of_getElem? hf)
    exact P.part b1 b2 (I.edges P Y _ f hf) _ _ _ h1 h2
/-- .. and all that is known to be one -/
theorem Cl.least (I : Cl ts as R es wt) (P : Poss ts M) (Y : Yes as M) (p q : Nat) (h : R p q) : M p q :=
  I.sp M P.rf P.sy P.tr (fun e he => by
    obtain ⟨k, hk⟩ := List.getElem?_of_mem he
    exact I.edges P Y k e hk) p q h
end
end Rf
set_option Elab.async false
set_option linter.all false
set_option maxRecDepth 100000
set_option maxHeartbeats 0
namespace Rf
open PySem PySem.Spec PyProof.Rows L2 TL Rf
theorem one_rfl {rs : List Nat} (p : Nat) : One rs p p := rfl
theorem One.sy {rs : List Nat} {p q : Nat} (h : One rs p q) : One rs q p := Eq.symm h
theorem One.tr {rs : List Nat} {p q r : Nat} (h : One rs p q) (k : One rs q r) : One rs p r := Eq.trans h k
/-- the pairs of parts that follow from edge number k -/
def ptsE (ts : List Th) (k : Nat) (e : Ed) : List Ed := (List.range (thg ts e.a).pts.length).map fun i => ⟨(thg ts e.a).pts.getD i 0, (thg ts e.b).pts.getD i 0, .part k i⟩
theorem unl2_len {T U : Th} (h : unl2 T U = false) : T.pts.length = U.pts.length := by
  cases T <;> cases U <;> first | rfl | (cases h; done) | skip
  all_goals first
    | (simp only [unl2, Bool.not_eq_false', decide_eq_true_iff] at h; exact h)
    | (exfalso; simp [unl2] at h)
theorem unlB_len {ts : List Th} {p q : Nat} (h : unlB ts p q = false) : (thg ts p).pts.length = (thg ts q).pts.length := by
  unfold unlB at h
  split at h
  · rename_i e; rw [e]
  · exact unl2_len h
theorem sum_set : ∀ {rs : List Nat} {x v : Nat}, x < rs.length → (rs.set x v).sum + rs.getD x 0 = rs.sum + v
  | [], x, v, h => by cases h
  | r :: rs, 0, v, h => by
    rw [List.set_cons_zero, List.sum_cons, List.sum_cons, List.getD_cons_zero]; omega
  | r :: rs, x + 1, v, h => by
    rw [List.set_cons_succ, List.sum_cons, List.sum_cons, List.getD_cons_succ]
    have := sum_set (rs := rs) (x := x) (v := v) (by simpa using h)
    omega
section
variable {ts : List Th} {as : List An} {R R' : Nat → Nat → Prop} {rs : List Nat} {es wt : List Ed} {M : Nat → Nat → Prop}
theorem Cl.skip {e : Ed} (I : Cl ts as R es (e :: wt)) (h : R e.a e.b) : Cl ts as R es wt where
  bd := I.bd
  wb := fun f hf => I.wb f (.tail _ hf)
  one := I.one
  wy := I.wy
  ww := fun f hf => I.ww f (.tail _ hf)
  cl := fun f hf i x y h1 h2 => by
    rcases I.cl f hf i x y h1 h2 with h3 | ⟨g, hg, rfl, rfl⟩
    · exact .inl h3
    · rcases List.mem_cons.mp hg with rfl | hg
      · exact .inl h
      · exact .inr ⟨g, hg, rfl, rfl⟩
  ye := fun x hx ht => by
    rcases I.ye x hx ht with h3 | ⟨g, hg, h4, h5⟩
    · exact .inl h3
    · rcases List.mem_cons.mp hg with rfl | hg
      · exact .inl (by rw [← h4, ← h5]; exact h)
      · exact .inr ⟨g, hg, h4, h5⟩
  sp := I.sp
theorem WyOk.app {k k' : Nat} {e f : Ed} (h : WyOk ts as es k e) (hk : k ≤ k') : WyOk ts as (es ++ [f]) k' e := by
  unfold WyOk at h ⊢
  split at h
  · exact h
  · obtain ⟨hj, g, hg, h1, h2⟩ := h
    exact ⟨by omega, g, by rw [List.getElem?_append_left (List.getElem?_eq_some_iff.mp hg).1]; exact hg, h1, h2⟩
/-- the roots behind the edge e -/
def mg2 (rs : List Nat) (e : Ed) : List Nat := rs.set (max (root rs e.a) (root rs e.b)) (min (root rs e.a) (root rs e.b))
theorem pts_lt (hw : ∀ i, i < ts.length → ∀ p ∈ (thg ts i).pts, p < ts.length) {i p : Nat} (h : p ∈ (thg ts i).pts) : p < ts.length := by
  by_cases hi : i < ts.length
  · exact hw i hi p h
  · unfold thg at h
    rw [List.getD_eq_getElem?_getD, List.getElem?_eq_none (by omega)] at h
    cases h
/-- the pair e joined: ps are the pairs of parts that follow -/
theorem Cl.add {e : Ed} {ps : List Ed} (I : Cl ts as R es (e :: wt)) (rf : ∀ p, R p p) (h2 : ∀ p q, R' p q ↔ (R p q ∨ (R p e.a ∧ R q e.b) ∨ (R p e.b ∧ R q e.a))) (hps : ∀ f ∈ ps, ∃ i, f.w = .part es.length i ∧ (thg ts e.a).pts[i]? = some f.a ∧ (thg ts e.b).pts[i]? = some f.b)
    (hpc : ∀ (i x y : Nat), (thg ts e.a).pts[i]? = some x → (thg ts e.b).pts[i]? = some y → ∃ f ∈ ps, f.a = x ∧ f.b = y) (hw : ∀ i, i < ts.length → ∀ p ∈ (thg ts i).pts, p < ts.length) : Cl ts as R' (es ++ [e]) (wt ++ ps) := by
  obtain ⟨ha, hb⟩ := I.wb e (.head _)
  have mono : ∀ {p q}, R p q → R' p q := fun {p q} hpq => (h2 p q).mpr (.inl hpq)
  have he : R' e.a e.b := (h2 _ _).mpr (.inr (.inl ⟨rf _, rf _⟩))
  have mem : ∀ {f}, f ∈ es ++ [e] → f ∈ es ∨ f = e := fun {f} hf => by
    rcases List.mem_append.mp hf with hf | hf
    · exact .inl hf
    · exact .inr (List.mem_singleton.mp hf)
  refine ⟨fun f hf => ?_, fun f hf => ?_, fun f hf => ?_, fun k f hf => ?_, fun f hf => ?_, fun f hf i x y q1 q2 => ?_, fun x hx ht => ?_, fun M r0 s0 t0 hM p q hpq => ?_⟩
  · rcases mem hf with hf | rfl
    · exact I.bd f hf
    · exact ⟨ha, hb⟩
  · rcases List.mem_append.mp hf with hf | hf
    · exact I.wb f (.tail _ hf)
    · obtain ⟨i, _, k1, k2⟩ := hps f hf
      exact ⟨pts_lt hw (List.mem_of_getElem? k1), pts_lt hw (List.mem_of_getElem? k2)⟩
  · rcases mem hf with hf | rfl
    · exact mono (I.one f hf)
    · exact he
  · by_cases hk : k < es.length
    · rw [List.getElem?_append_left hk] at hf
      exact (I.wy k f hf).app (Nat.le_refl _)
    · rw [List.getElem?_append_right (by omega)] at hf
      have hk0 : k - es.length = 0 := by
        have := (List.getElem?_eq_some_iff.mp hf).1
        simp only [List.length_singleton] at this
        omega
      rw [hk0] at hf
      cases hf
      exact (I.ww e (.head _)).app (by omega)
  · rw [List.length_append, List.length_singleton]
    rcases List.mem_append.mp hf with hf | hf
    · exact (I.ww f (.tail _ hf)).app (by omega)
    · obtain ⟨i, k0, k1, k2⟩ := hps f hf
      unfold WyOk
      rw [k0]
      exact ⟨by omega, e, by simp, k1, k2⟩
  · rcases mem hf with hf | rfl
    · rcases I.cl f hf i x y q1 q2 with h3 | ⟨g, hg, rfl, rfl⟩
      · exact .inl (mono h3)
      · rcases List.mem_cons.mp hg with rfl | hg
        · exact .inl he
        · exact .inr ⟨g, List.mem_append.mpr (.inl hg), rfl, rfl⟩
    · obtain ⟨g, hg, h4, h5⟩ := hpc i x y q1 q2
      exact .inr ⟨g, List.mem_append.mpr (.inr hg), h4, h5⟩
  · rcases I.ye x hx ht with h3 | ⟨g, hg, h4, h5⟩
    · exact .inl (mono h3)
    · rcases List.mem_cons.mp hg with rfl | hg
      · exact .inl (by rw [← h4, ← h5]; exact he)
      · exact .inr ⟨g, List.mem_append.mpr (.inl hg), h4, h5⟩
  · have hM' : ∀ p q, R p q → M p q := I.sp M r0 s0 t0 fun f hf => hM f (List.mem_append.mpr (.inl hf))
    have heM : M e.a e.b := hM e (by simp)
    rcases (h2 p q).mp hpq with h3 | ⟨h3, h4⟩ | ⟨h3, h4⟩
    · exact hM' p q h3
    · exact t0 (hM' _ _ h3) (t0 heM (s0 (hM' _ _ h4)))
    · exact t0 (hM' _ _ h3) (t0 (s0 heM) (s0 (hM' _ _ h4)))
theorem getD_some {xs : List Nat} {i x : Nat} (h : xs[i]? = some x) : xs.getD i 0 = x := by rw [List.getD_eq_getElem?_getD, h]; rfl
theorem some_getD {xs : List Nat} {i : Nat} (h : i < xs.length) : xs[i]? = some (xs.getD i 0) := by rw [List.getD_eq_getElem?_getD, List.getElem?_eq_getElem h]; rfl
theorem Sv.skip {e : Ed} (I : Sv ts as rs es (e :: wt)) (h : One rs e.a e.b) : Sv ts as rs es wt := ⟨I.rk, I.lk, I.c.skip h⟩
theorem Sv.add {e : Ed} (I : Sv ts as rs es (e :: wt)) (hw : ∀ i, i < ts.length → ∀ p ∈ (thg ts i).pts, p < ts.length) (h : ¬ One rs e.a e.b) (hl : unlB ts e.a e.b = false) : Sv ts as (mg2 rs e) (es ++ [e]) (wt ++ ptsE ts es.length e) := by
  obtain ⟨ha, hb⟩ := I.c.wb e (.head _)
  obtain ⟨h1, h2⟩ := one_set I.rk ha hb h
  have hlen := unlB_len hl
  refine ⟨h1, fun f hf => ?_, I.c.add one_rfl h2 (fun f hf => ?_) (fun i x y q1 q2 => ?_) hw⟩
  · rcases List.mem_append.mp hf with hf | hf
    · exact I.lk f hf
    · rw [List.mem_singleton.mp hf]; exact hl
  · obtain ⟨i, hi, rfl⟩ := List.mem_map.mp hf
    rw [List.mem_range] at hi
    exact ⟨i, rfl, some_getD hi, some_getD (by omega)⟩
  · refine ⟨⟨x, y, .part es.length i⟩, List.mem_map.mpr ⟨i, ?_, ?_⟩, rfl, rfl⟩
    · rw [List.mem_range]; exact (List.getElem?_eq_some_iff.mp q1).1
    · rw [getD_some q1, getD_some q2]
theorem mg2_sum {e : Ed} (I : Sv ts as rs es (e :: wt)) (h : ¬ One rs e.a e.b) : (mg2 rs e).sum < rs.sum := by
  obtain ⟨ha, hb⟩ := I.c.wb e (.head _)
  have la := root_le rs e.a
  have lb := root_le rs e.b
  have h' : root rs e.a ≠ root rs e.b := h
  have hl : max (root rs e.a) (root rs e.b) < rs.length := by rw [I.rk.1]; omega
  have hs := sum_set (v := min (root rs e.a) (root rs e.b)) hl
  have aux : ∀ x, x < rs.length → rs.getD x x = x → rs.getD x 0 = x := fun x hx h => by
    rw [List.getD_eq_getElem?_getD, List.getElem?_eq_getElem hx] at h ⊢
    exact h
  have hx : rs.getD (max (root rs e.a) (root rs e.b)) 0 = max (root rs e.a) (root rs e.b) := by
    refine aux _ hl ?_
    have ra := root_root I.rk e.a
    have rb := root_root I.rk e.b
    rcases Nat.le_total (root rs e.a) (root rs e.b) with h | h
    · rw [Nat.max_eq_right h]; exact rb
    · rw [Nat.max_eq_left h]; exact ra
  unfold mg2
  omega
end
theorem unl2_sy (T U : Th) : unl2 T U = unl2 U T := by
  cases T <;> cases U <;> first | rfl | (simp only [unl2]; rw [Bool.eq_iff_iff]; simp only [Bool.not_eq_true', decide_eq_false_iff_not]; exact ⟨fun h e => h e.symm, fun h e => h e.symm⟩)
theorem unlB_sy (ts : List Th) (p q : Nat) : unlB ts p q = unlB ts q p := by
  unfold unlB
  by_cases h : p = q
  · rw [if_pos h, if_pos h.symm]
  · rw [if_neg h, if_neg (Ne.symm h), unl2_sy]
theorem unl2_tr {T U V : Th} (h1 : unl2 T U = false) (h2 : unl2 U V = false) : unl2 T V = false := by
  cases T <;> cases U <;> cases V <;> simp only [unl2, Bool.not_eq_false', decide_eq_true_iff] at * <;> first | (exact h1.trans h2) | (cases h1; done) | (cases h2; done)
theorem unlB_tr {ts : List Th} {p q r : Nat} (h1 : unlB ts p q = false) (h2 : unlB ts q r = false) : unlB ts p r = false := by
  by_cases e1 : p = q
  · subst e1; exact h2
  · by_cases e2 : q = r
    · subst e2; exact h1
    · unfold unlB at h1 h2 ⊢
      rw [if_neg e1] at h1
      rw [if_neg e2] at h2
      split
      · rfl
      · exact unl2_tr h1 h2
theorem unlB_rf (ts : List Th) (p : Nat) : unlB ts p p = false := if_pos rfl
section
variable {ts : List Th} {as : List An} {R : Nat → Nat → Prop} {rs : List Nat} {es wt : List Ed} {M : Nat → Nat → Prop}
theorem Cl.poss (I : Cl ts as R es []) (rf : ∀ p, R p p) (sy : ∀ {p q}, R p q → R q p) (tr : ∀ {p q r}, R p q → R q r → R p r) (lk : ∀ e ∈ es, unlB ts e.a e.b = false) : Poss ts R ∧ Yes as R ∧ ∀ p q, R p q → unlB ts p q = false := by
  have hlk : ∀ p q, R p q → unlB ts p q = false := I.sp (fun p q => unlB ts p q = false) (unlB_rf ts) (fun {p q} h => by rw [unlB_sy]; exact h) unlB_tr lk
  have hpt : ∀ p q, R p q → (thg ts p).pts.length = (thg ts q).pts.length ∧ ∀ (i x y : Nat), (thg ts p).pts[i]? = some x → (thg ts q).pts[i]? = some y → R x y := by
    refine I.sp (fun p q => (thg ts p).pts.length = (thg ts q).pts.length ∧ ∀ (i x y : Nat), (thg ts p).pts[i]? = some x → (thg ts q).pts[i]? = some y → R x y) (fun p => ⟨rfl, fun i x y h1 h2 => ?_⟩) (fun {p q} h => ⟨h.1.symm, fun i x y h1 h2 => sy (h.2 i y x h2 h1)⟩) (fun {p q r} h k => ⟨h.1.trans k.1, fun i x z h1 h2 => ?_⟩) fun e he => ⟨unlB_len (lk e he), fun i x y h1 h2 => ?_⟩
    · rw [h1] at h2; cases h2; exact rf x
    · have hi : i < (thg ts q).pts.length := by rw [← h.1]; exact (List.getElem?_eq_some_iff.mp h1).1
      exact tr (h.2 i x _ h1 (some_getD hi)) (k.2 i _ z (some_getD hi) h2)
    · rcases I.cl e he i x y h1 h2 with h | ⟨f, hf, _⟩
      · exact h
      · cases hf
  refine ⟨⟨rf, sy, tr, fun {p q} _ _ h => hlk p q h, fun {p q} _ _ h => (hpt p q h).2⟩, fun x hx ht => ?_, hlk⟩
  rcases I.ye x hx ht with h | ⟨f, hf, _⟩
  · exact h
  · cases hf
theorem Sv.poss (I : Sv ts as rs es []) : Poss ts (One rs) ∧ Yes as (One rs) := by
  obtain ⟨h1, h2, _⟩ := I.c.poss one_rfl One.sy One.tr I.lk
  exact ⟨h1, h2⟩
theorem Sv.least (I : Sv ts as rs es wt) (P : Poss ts M) (Y : Yes as M) (p q : Nat) (h : One rs p q) : M p q := I.c.least P Y p q h
/-- no division has what cannot be -/
theorem Sv.none {e : Ed} (I : Sv ts as rs es (e :: wt)) (h : unlB ts e.a e.b = true) : ¬ ∃ M, Poss ts M ∧ Yes as M := fun ⟨M, P, Y⟩ => by
  obtain ⟨ha, hb⟩ := I.c.wb e (.head _)
  have := P.like ha hb (I.c.wait P Y e (.head _))
  rw [h] at this
  cases this
/-- some division agrees with the answers -/
def Ag (ts : List Th) (as : List An) : Prop := ∃ M, Poss ts M ∧ Yes as M ∧ No as M
theorem Sv.ag (I : Sv ts as rs es []) : Ag ts as ↔ No as (One rs) := by
  constructor
  · rintro ⟨M, P, Y, N⟩ x hx ht h
    exact N x hx ht (I.least P Y _ _ h)
  · exact fun h => ⟨_, I.poss.1, I.poss.2, h⟩
/-- two states for the same answers know the same -/
theorem Cl.same {R' : Nat → Nat → Prop} {es' : List Ed} (I : Cl ts as R es []) (P : Poss ts R) (Y : Yes as R) (I' : Cl ts as R' es' []) (P' : Poss ts R') (Y' : Yes as R') (p q : Nat) : R p q ↔ R' p q := ⟨I.least P' Y' p q, I'.least P Y p q⟩
end
end Rf
set_option Elab.async false
set_option linter.all false
set_option maxRecDepth 100000
set_option maxHeartbeats 0
namespace Rf
open PySem PySem.Spec PyProof.Rows L2 TL Rf
structure SmA (S : Sto) (o l a r e : Nat) (ts : List Th) (as : List An) (rs : List Nat) (es : List Ed) : Prop where
  i : insOf S (.obj o) = some (("Sameness" : Str), (["listed", "answered", "roots", "edges"] : List Str), [D.obj l, .obj a, .obj r, .obj e])
  l : S[l]? = some (.lst (ts.map Th.d))
  a : S[a]? = some (.lst (as.map An.d))
  r : S[r]? = some (.lst (rs.map nD))
  e : S[e]? = some (.lst (es.map Ed.d))
theorem g_ins {S : Sto} {d : D} {K : Str → List Str → List D → Prop} {c : Str} {ns : List Str} {ds : List D} (h : insOf S d = some (c, ns, ds)) (k : K c ns ds) : ∃ c ns ds, insOf S d = some (c, ns, ds) ∧ K c ns ds := ⟨c, ns, ds, h, k⟩
theorem g_drX {S : Sto} {o : D → D → Option D} {n : Nat} {ds : List D} {y z : D} {Q : D → Prop} (h : S[n]? = some (.lst ds)) (e : o (.lst ds) y = some z) (hy : deref S y = y) (k : Q z) : ∃ z, o (deref S (.obj n)) (deref S y) = some z ∧ Q z := g_drL h (by rw [hy]; exact ⟨z, e, k⟩)
theorem g_dr1X {S : Sto} {oL : List D → Option D} {n : Nat} {ds : List D} {z : D} {Q : D → Prop} (h : S[n]? = some (.lst ds)) (e : oL [.lst ds] = some z) (k : Q z) : ∃ z, oL ([D.obj n].map (deref S)) = some z ∧ Q z := g_dr1 h ⟨z, e, k⟩
theorem g_src {S : Sto} {n : Nat} {ds : List D} {Q : Src → Prop} (h : S[n]? = some (.lst ds)) (k : Q (ds, some [(n, ds)])) : ∃ s, srcOf S (.obj n) = some s ∧ Q s := ⟨_, by show (match S[n]? with | some (.lst ds) => some (ds, some [(n, ds)]) | _ => none) = _; rw [h], k⟩
theorem ix_nat {rs : List Nat} {i : Nat} (d : Nat) (h : i < rs.length) : oIx (.lst (rs.map nD)) (nD i) = some (nD (rs.getD i d)) := atI_some (by rw [List.getElem?_map, List.getElem?_eq_getElem h, List.getD_eq_getElem?_getD, List.getElem?_eq_getElem h]; rfl)
section
variable {S : Sto} {o l a r e : Nat} {ts : List Th} {as : List An} {rs : List Nat} {es : List Ed}
section
local macro_rules | `(tactic| walk_at "rf") => `(tactic| first | ((with_reducible refine anG ?_); ((with_reducible refine r_dec (fun ht => ?_) (fun ht => ?_)) <;> first | (exfalso; omega) | skip)) | fail)
local macro_rules | `(tactic| walk_at "rf") => `(tactic| first | ((with_reducible refine exG ?_); (with_reducible refine g_op ?_)) | ((with_reducible refine exG ?_); ((with_reducible apply Exists.intro); (fail_if_success (with_reducible refine g_og ?_ ?_)); (fail_if_success (with_reducible refine repG ?_)); (repeat (with_reducible apply Exists.intro)); refine And.intro rfl ?_)) | fail)
local macro_rules | `(tactic| walk_at "rf") => `(tactic| first | ((with_reducible refine wpG ?_); (with_reducible refine Wp.imp ?_)) | ((with_reducible refine wsG ?_); (with_reducible refine Ws.imp ?_)) | fail)
local macro_rules | `(tactic| walk_at "rf") => `(tactic| first | ((with_reducible apply g_drX); (· with_reducible assumption); (· with_reducible assumption); (· exact rfl)) | ((with_reducible refine lsG ?_); (intro L' hL'; (try simp only [List.set_cons_zero, List.set_cons_succ] at hL'); subst hL')) | fail)
local macro_rules | `(tactic| walk_at "rf") => `(tactic| first | ((with_reducible apply g_ins); (· with_reducible assumption)) | (with_reducible refine And.intro (List.mem_singleton.mpr rfl) ?_) | fail)
theorem root_ok (A : SmA S o l a r e ts as rs es) {n : Nat} (R : RsOk rs n) {t : Nat} (ht : t < n) : c_Sameness_root_of [.obj o, nD t] S = .ok (nD (root rs t)) S := ok_of (by
  obtain ⟨hi, hl, ha, hr, he⟩ := A
  have hn := R.1
  apply u_Sameness_root_of
  repeat' walk_at "rf"
  refine wps_whl (fun m L S' => Iv (∃ u, L = [.v (.obj o), .v (nD u)] ∧ S' = S ∧ root rs u = root rs t ∧ u < n ∧ m = u)) ?_ ⟨t, rfl, rfl, rfl, ht, rfl⟩
  rintro m L S' ⟨u, rfl, rfl, hu, hun, rfl⟩
  have hx := ix_nat (rs := rs) (i := m) m (by omega)
  have hle := R.2 m
  generalize hv : rs.getD m m = v at hx hle
  repeat' walk_at "rf"
  · exact ⟨v, by omega, v, rfl, rfl, by
      have h9 := root_step (rs := rs) (t := m) (by rw [hv]; omega)
      rw [hv] at h9
      rw [← hu, h9], by omega, rfl⟩
  · exact ⟨congrArg nD (by rw [← hu]; exact (root_fix (by rw [hv]; omega)).symm), rfl⟩)
end
section
local macro_rules | `(tactic| walk_at "rf") => `(tactic| first | ((with_reducible apply g_src); (· with_reducible assumption)) | ((with_reducible apply wp.eq); (· with_reducible assumption)) | fail)
local macro_rules | `(tactic| walk_at "rf") => `(tactic| first | ((with_reducible apply g_ins); (· with_reducible assumption)) | (with_reducible refine And.intro (List.mem_singleton.mpr rfl) ?_) | fail)
local macro_rules | `(tactic| walk_at "rf") => `(tactic| first | ((with_reducible refine anG ?_); ((with_reducible refine And.intro ?_ ?_); exact rfl)) | ((with_reducible refine anG ?_); ((with_reducible refine And.intro ?_ ?_); exact Nat.le_of_ble_eq_true rfl)) | fail)
local macro_rules | `(tactic| walk_at "rf") => `(tactic| first | ((with_reducible refine anG ?_); ((with_reducible apply r_isF); (· first | with_reducible assumption | exact rfl))) | ((with_reducible refine anG ?_); ((with_reducible refine r_dec (fun ht => ?_) (fun ht => ?_)) <;> first | (exfalso; omega) | skip)) | fail)
local macro_rules | `(tactic| walk_at "rf") => `(tactic| first | ((with_reducible refine exG ?_); (with_reducible refine g_op ?_)) | ((with_reducible refine exG ?_); ((with_reducible apply Exists.intro); (fail_if_success (with_reducible refine g_og ?_ ?_)); (fail_if_success (with_reducible refine repG ?_)); (repeat (with_reducible apply Exists.intro)); refine And.intro rfl ?_)) | fail)
local macro_rules | `(tactic| walk_at "rf") => `(tactic| first | ((with_reducible refine wpG ?_); (with_reducible refine Wp.imp ?_)) | ((with_reducible refine wsG ?_); (with_reducible refine Ws.imp ?_)) | fail)
theorem is_same_ok (A : SmA S o l a r e ts as rs es) {n : Nat} (R : RsOk rs n) {p q : Nat} (hp : p < n) (hq : q < n) : c_Sameness_is_same [.obj o, nD p, nD q] S = .ok (.bl (decide (One rs p q))) S := ok_of (by
  have h1 := root_ok A R hp
  have h2 := root_ok A R hq
  obtain ⟨hi, hl, ha, hr, he⟩ := A
  apply u_Sameness_is_same
  repeat' walk_at "rf"
  exact bl_g (by rw [Bool.eq_iff_iff]; simp only [decide_eq_true_iff]; unfold One; omega))
theorem broken_ok (A : SmA S o l a r e ts as rs es) {n : Nat} (R : RsOk rs n) (hb : ∀ x ∈ as, x.a < n ∧ x.b < n) (hz : as.length < 10000) : @wp noXP _ (c_Sameness_broken [.obj o] S) fun d S' => S' = S ∧ ((d = .non ∧ No as (One rs)) ∨ ∃ x ∈ as, x.t = 0 ∧ One rs x.a x.b ∧ d = .tup [nD x.a, nD x.b]) := by
  have hA := A
  obtain ⟨hi, hl, ha, hr, he⟩ := A
  apply u_Sameness_broken
  repeat' walk_at "rf"
  refine wps_eaB (f := An.d) (fun bs L S' => Iv (∃ (pre : List An) (z1 z2 z3 : LV), as = pre ++ bs ∧ (∀ x ∈ pre, x.t = 0 → ¬ One rs x.a x.b) ∧ S' = S ∧ L = [.v (.obj o), z1, z2, z3])) ?_ ?_ ?_ as _ _ ⟨[], _, _, _, rfl, fun x hx => by (cases hx), rfl, rfl⟩
  · rintro ll hll as' L S' ⟨pre, z1, z2, z3, e1, e2, rfl, rfl⟩
    cases hll
    exact dep1 ha
  · rintro x bs L S' ⟨pre, z1, z2, z3, e1, e2, rfl, rfl⟩
    obtain ⟨ba, bb⟩ := hb x (by rw [e1]; simp)
    have h1 := root_ok hA R ba
    have h2 := root_ok hA R bb
    refine tgX _ rfl fun L' hL' => ?_
    subst hL'
    repeat' walk_at "rf"
    · rename_i h0 h3
      exact .inr ⟨x, by rw [e1]; simp, h0, by unfold One; omega, rfl⟩
    · rename_i h0 h3
      show Iv _
      exact ⟨pre ++ [x], _, _, _, by rw [e1]; simp, fun y hy hy0 => by
        rcases List.mem_append.mp hy with hy | hy
        · exact e2 y hy hy0
        · rw [List.mem_singleton.mp hy]; unfold One; omega, rfl, rfl⟩
    · rename_i h0
      show Iv _
      exact ⟨pre ++ [x], _, _, _, by rw [e1]; simp, fun y hy hy0 => by
        rcases List.mem_append.mp hy with hy | hy
        · exact e2 y hy hy0
        · rw [List.mem_singleton.mp hy] at hy0; exact absurd hy0 h0, rfl, rfl⟩
  · rintro L S' ⟨pre, z1, z2, z3, e1, e2, rfl, rfl⟩
    rw [List.append_nil] at e1
    subst e1
    repeat' walk_at "rf"
    exact .inl ⟨rfl, e2⟩
end
end
end Rf
set_option Elab.async false
set_option linter.all false
set_option maxRecDepth 100000
set_option maxHeartbeats 0
namespace Rf
open PySem PySem.Spec PyProof.Rows L2 TL Rf
section
variable {S : Sto} {o l a r e : Nat} {ts : List Th} {as : List An} {rs : List Nat} {es : List Ed}
/-- the lists lie apart -/
structure Apt (o l a r e : Nat) : Prop where
  lr : l ≠ r
  le : l ≠ e
  ar : a ≠ r
  ae : a ≠ e
  re : r ≠ e
  la : l ≠ a
theorem insOf_set {S : Sto} {o n : Nat} {X : O} {c : Str} {ns : List Str} {ds xs : List D} (h : insOf S (.obj o) = some (c, ns, ds)) (hn : S[n]? = some (.lst xs)) : insOf (S.set n X) (.obj o) = some (c, ns, ds) := by
  unfold insOf at h ⊢
  dsimp only at h ⊢
  by_cases e : n = o
  · subst e
    rw [hn] at h
    cases h
  · have e2 : (S.set n X)[o]? = S[o]? := List.getElem?_set_ne e
    rw [e2]; exact h
theorem at_set {S : Sto} {n : Nat} {X Y : O} (h : S[n]? = some Y) : (S.set n X)[n]? = some X := List.getElem?_set_self (List.getElem?_eq_some_iff.mp h).1
theorem SmA.setR (A : SmA S o l a r e ts as rs es) (p : Apt o l a r e) (rs' : List Nat) : SmA (S.set r (.lst (rs'.map nD))) o l a r e ts as rs' es :=
  ⟨insOf_set A.i A.r, by rw [List.getElem?_set_ne (Ne.symm p.lr)]; exact A.l, by rw [List.getElem?_set_ne (Ne.symm p.ar)]; exact A.a, at_set A.r, by rw [List.getElem?_set_ne p.re]; exact A.e⟩
theorem SmA.setE (A : SmA S o l a r e ts as rs es) (p : Apt o l a r e) (es' : List Ed) : SmA (S.set e (.lst (es'.map Ed.d))) o l a r e ts as rs es' :=
  ⟨insOf_set A.i A.e, by rw [List.getElem?_set_ne (Ne.symm p.le)]; exact A.l, by rw [List.getElem?_set_ne (Ne.symm p.ae)]; exact A.a, by rw [List.getElem?_set_ne (Ne.symm p.re)]; exact A.r, at_set A.e⟩
theorem SmA.setA (A : SmA S o l a r e ts as rs es) (p : Apt o l a r e) (as' : List An) : SmA (S.set a (.lst (as'.map An.d))) o l a r e ts as' rs es :=
  ⟨insOf_set A.i A.a, by rw [List.getElem?_set_ne (Ne.symm p.la)]; exact A.l, at_set A.a, by rw [List.getElem?_set_ne p.ar]; exact A.r, by rw [List.getElem?_set_ne p.ae]; exact A.e⟩
theorem max_n (x y : Nat) : bMax2 [nD x, nD y] = some (nD (max x y)) := by
  show some (D.int (if (y : Int) > (x : Int) then (y : Int) else (x : Int))) = _
  congr 2
  split <;> omega
theorem min_n (x y : Nat) : bMin2 [nD x, nD y] = some (nD (min x y)) := by
  show some (D.int (if (y : Int) < (x : Int) then (y : Int) else (x : Int))) = _
  congr 2
  split <;> omega
noncomputable abbrev pUni (rest : SM) : SM := sSeq (sPutO (eFl ["Sameness"] "roots" (eVar 0)) (eCall bMax2 (aCons (pVar 7) (aCons (pVar 8) (aNil)))) (eCall bMin2 (aCons (pVar 7) (aCons (pVar 8) (aNil))))) (sSeq (sAppO (eFl ["Sameness"] "edges" (eVar 0)) (eVar 6)) rest)
section
local macro_rules | `(tactic| walk_at "rf") => `(tactic| first | ((with_reducible refine anG ?_); ((with_reducible refine And.intro ?_ ?_); (· with_reducible assumption))) | fail)
local macro_rules | `(tactic| walk_at "rf") => `(tactic| first | ((with_reducible refine stG ?_); (intro S' hS'; (try simp only [List.cons_append, List.nil_append, List.set_cons_zero, List.set_cons_succ] at hS'); subst hS')) | ((with_reducible refine exG ?_); ((with_reducible apply Exists.intro); (fail_if_success (with_reducible refine g_og ?_ ?_)); (fail_if_success (with_reducible refine repG ?_)); (repeat (with_reducible apply Exists.intro)); refine And.intro rfl ?_)) | fail)
local macro_rules | `(tactic| walk_at "rf") => `(tactic| first | ((with_reducible refine wpG ?_); (with_reducible refine Wp.imp ?_)) | ((with_reducible refine wsG ?_); (with_reducible refine Ws.imp ?_)) | fail)
local macro_rules | `(tactic| walk_at "rf") => `(tactic| first | ((with_reducible apply Exists.intro); (with_reducible refine And.intro ?_ ?_); (· with_reducible assumption)) | ((with_reducible apply g_c2); (· with_reducible assumption); (· exact rfl); (· exact rfl)) | fail)
local macro_rules | `(tactic| walk_at "rf") => `(tactic| first | ((with_reducible apply g_ins); (· with_reducible assumption)) | (with_reducible refine And.intro (List.mem_singleton.mpr rfl) ?_) | fail)
theorem q_uni (A : SmA S o l a r e ts as rs es) (p : Apt o l a r e) {x y : Nat} {d : Ed} (hx : max x y < rs.length) (hz : es.length < 100000) {rest : SM} {z1 z2 z3 z4 z5 z9 z10 z11 : LV} {PS : Fl → Ls → Sto → Prop}
    (k : ∀ S', SmA S' o l a r e ts as (rs.set (max x y) (min x y)) (es ++ [d]) → S' = (S.set r (.lst ((rs.set (max x y) (min x y)).map nD))).set e (.lst ((es ++ [d]).map Ed.d)) → @wps noXP (rest [.v (.obj o), z1, z2, z3, z4, z5, .v d.d, .v (nD x), .v (nD y), z9, z10, z11] S') PS) :
    @wps noXP (pUni rest [.v (.obj o), z1, z2, z3, z4, z5, .v d.d, .v (nD x), .v (nD y), z9, z10, z11] S) PS := by
  have A2 := A.setR p (rs.set (max x y) (min x y))
  have A3 := A2.setE p (es ++ [d])
  have e1 : (rs.set (max x y) (min x y)).map nD = (rs.map nD).set (max x y) (nD (min x y)) := List.map_set ..
  have e2 : (es ++ [d]).map Ed.d = es.map Ed.d ++ [d.d] := by rw [List.map_append]; rfl
  have k' := k _ A3 rfl
  have hmx := max_n x y
  have hmn := min_n x y
  have hix : ixN (rs.map nD).length ((max x y : Nat) : Int) = some (max x y) := by
    rw [List.length_map]
    unfold L2.ixN
    rw [if_pos (by omega), if_pos (by omega), Int.toNat_natCast]
  have hr := A.r
  have hi := A.i
  have hi2 := A2.i
  have hE := A2.e
  rw [e1] at hi2 hE k'
  rw [e2] at k'
  have hzz : (es.map Ed.d).length < sizeLine := by
    have : 100000 ≤ sizeLine := by decide
    rw [List.length_map]; omega
  clear A A2 A3 k
  repeat' walk_at "rf"
  exact k'
end
end
end Rf
set_option Elab.async false
set_option linter.all false
set_option maxRecDepth 100000
set_option maxHeartbeats 0
namespace Rf
open PySem PySem.Spec PyProof.Rows L2 TL Rf
theorem oIx_mapL {α : Type} {f : α → D} {xs : List α} {k : Nat} (h : k < xs.length) (z : α) : oIx (.lst (xs.map f)) (nD k) = some (f (xs.getD k z)) := atI_some (by
  rw [List.getElem?_map, List.getElem?_eq_getElem h, List.getD_eq_getElem?_getD, List.getElem?_eq_getElem h]; rfl)
section
variable {S : Sto} {ts : List Th} {as : List An} {vs : List D}
section
local macro_rules | `(tactic| walk_at "rf") => `(tactic| first | (with_reducible exact rfl) | fail)
local macro_rules | `(tactic| walk_at "rf") => `(tactic| first | ((with_reducible refine anG ?_); ((with_reducible apply r_isT); (· first | with_reducible assumption | exact rfl))) | ((with_reducible refine anG ?_); ((with_reducible refine And.intro ?_ ?_); exact rfl)) | fail)
local macro_rules | `(tactic| walk_at "rf") => `(tactic| first | ((with_reducible refine exG ?_); (with_reducible refine g_op ?_)) | ((with_reducible refine exG ?_); ((with_reducible apply Exists.intro); (fail_if_success (with_reducible refine g_og ?_ ?_)); (fail_if_success (with_reducible refine repG ?_)); (repeat (with_reducible apply Exists.intro)); refine And.intro rfl ?_)) | fail)
local macro_rules | `(tactic| walk_at "rf") => `(tactic| first | ((with_reducible refine wpG ?_); (with_reducible refine Wp.imp ?_)) | ((with_reducible refine wsG ?_); (with_reducible refine Ws.imp ?_)) | fail)
local macro_rules | `(tactic| walk_at "rf") => `(tactic| first | ((with_reducible refine r_dec (fun ht => ?_) (fun ht => ?_)) <;> first | (exact absurd (by with_reducible assumption) ht) | (exact absurd rfl ht) | (exact absurd ht (by with_reducible assumption)) | (exact absurd ht (by decide)) | (exfalso; omega) | (exfalso; simp only [List.length_cons, List.length_nil, List.length_map] at ht; omega) | skip) | ((with_reducible refine lsG ?_); (intro L' hL'; (try simp only [List.set_cons_zero, List.set_cons_succ] at hL'); subst hL')) | fail)
local macro_rules | `(tactic| walk_at "rf") => `(tactic| first | ((with_reducible apply g_drX); (· with_reducible assumption); (· with_reducible assumption); (· exact rfl)) | ((with_reducible apply g_b2); (· with_reducible assumption); (· first | with_reducible assumption | rfl); (· first | with_reducible assumption | rfl)) | fail)
theorem unlikeO_eq {l : Nat} (hl : S[l]? = some (.lst (ts.map Th.d))) (hts : ∀ t ∈ ts, t.ok ts.length) {p q : Nat} (hp : p < ts.length) (hq : q < ts.length) : c_are_unlike [.obj l, nD p, nD q] S = .ok (.bl (unlB ts p q)) S := ok_of (by
  apply u_are_unlike
  have e3 : oIx (.lst (ts.map Th.d)) (nD p) = some (ts.getD p .row).d := oIx_mapL hp .row
  have e4 : oIx (.lst (ts.map Th.d)) (nD q) = some (ts.getD q .row).d := oIx_mapL hq .row
  have hoT : (ts.getD p .row).ok ts.length := by
    rw [List.getD_eq_getElem?_getD, List.getElem?_eq_getElem hp]; exact hts _ (List.getElem_mem hp)
  have hoU : (ts.getD q .row).ok ts.length := by
    rw [List.getD_eq_getElem?_getD, List.getElem?_eq_getElem hq]; exact hts _ (List.getElem_mem hq)
  by_cases hpq : p = q
  · have hB : unlB ts p q = false := if_pos hpq
    rw [Th.d_eq] at e3 e4
    repeat' walk_at "rf"
    all_goals exact bl_g hB.symm
  have hB : unlB ts p q = unl2 (ts.getD p .row) (ts.getD q .row) := if_neg hpq
  rw [hB]
  generalize ts.getD p .row = T at e3 hoT ⊢
  generalize ts.getD q .row = U at e4 hoU ⊢
  rw [Th.d_eq] at e3 e4
  by_cases hn : T.nm = U.nm
  · by_cases h1 : T.nm = [114, 111, 119]
    · have hu : U.nm = [114, 111, 119] := hn ▸ h1
      have := Th.nm_row h1
      have := Th.nm_row hu
      subst T U
      repeat' walk_at "rf"
      all_goals exact ⟨rfl, rfl⟩
    · by_cases h2 : T.nm = [116, 117, 112, 108, 101]
      · obtain ⟨ps, rfl⟩ := Th.nm_tup h2
        obtain ⟨qs, rfl⟩ := Th.nm_tup (hn ▸ h2)
        simp only [Th.nm, Th.rs] at e3 e4
        have z1 : (ps.map nD).length ≤ sizeLine := Nat.le_trans (by rw [List.length_map]; exact hoT.1 : _ ≤ 1000) (by decide)
        have z2 : (qs.map nD).length ≤ sizeLine := Nat.le_trans (by rw [List.length_map]; exact hoU.1 : _ ≤ 1000) (by decide)
        repeat' walk_at "rf"
        all_goals exact bl_g (by simp [unl2]; omega)
      · have hne := (Th.eqd hoT hoU hn h2).2
        rw [unl_eq hn h1 h2]
        repeat' walk_at "rf"
        all_goals exact ⟨rfl, rfl⟩
  · rw [unl_ne hn]
    repeat' walk_at "rf"
    all_goals exact ⟨rfl, rfl⟩)
end
end
end Rf
set_option Elab.async false
set_option linter.all false
set_option maxRecDepth 100000
set_option maxHeartbeats 0
namespace Rf
open PySem PySem.Spec PyProof.Rows L2 TL Rf
theorem set_same {S : Sto} {n : Nat} {X : O} (h : S[n]? = some X) : S.set n X = S := by
  obtain ⟨hn, e⟩ := List.getElem?_eq_some_iff.mp h
  rw [← e]
  exact List.set_getElem_self hn
theorem stU {rest : SM} {L : Ls} {S : Sto} {P : Fl → Ls → Sto → Prop} (h : stopL (wps (pUni rest L S) P)) : wps (pUni rest L S) P := h
theorem Th.ok_pts {ts : List Th} (hts : ∀ t ∈ ts, t.ok ts.length) : ∀ i, i < ts.length → ∀ p ∈ (thg ts i).pts, p < ts.length := fun i hi p hp => by
  have h : (thg ts i).ok ts.length := by
    unfold thg
    rw [List.getD_eq_getElem?_getD, List.getElem?_eq_getElem hi]; exact hts _ (List.getElem_mem hi)
  generalize thg ts i = t at h hp
  cases t with
  | tup ps => exact h.2 p hp
  | _ => cases hp
section
variable {S : Sto} {o l a r e : Nat} {ts : List Th} {as as' : List An} {rs : List Nat} {es : List Ed}
section
local macro_rules | `(tactic| walk_at "rf") => `(tactic| first | ((with_reducible refine anG ?_); ((with_reducible refine And.intro ?_ ?_); (· with_reducible assumption))) | ((with_reducible refine anG ?_); ((with_reducible refine And.intro ?_ ?_); exact Nat.le_of_ble_eq_true rfl)) | fail)
local macro_rules | `(tactic| walk_at "rf") => `(tactic| first | ((with_reducible refine anG ?_); ((with_reducible refine r_dec (fun ht => ?_) (fun ht => ?_)) <;> first | (exfalso; omega) | skip)) | ((with_reducible refine anG ?_); ((with_reducible refine And.intro ?_ ?_); exact rfl)) | fail)
local macro_rules | `(tactic| walk_at "rf") => `(tactic| first | ((with_reducible refine anG ?_); ((with_reducible apply r_isT); (· first | with_reducible assumption | exact rfl))) | ((with_reducible refine anG ?_); ((with_reducible apply r_isF); (· first | with_reducible assumption | exact rfl))) | fail)
local macro_rules | `(tactic| walk_at "rf") => `(tactic| first | ((with_reducible refine exG ?_); (with_reducible refine g_op ?_)) | ((with_reducible refine exG ?_); ((with_reducible apply Exists.intro); (fail_if_success (with_reducible refine g_og ?_ ?_)); (fail_if_success (with_reducible refine repG ?_)); (repeat (with_reducible apply Exists.intro)); refine And.intro rfl ?_)) | fail)
local macro_rules | `(tactic| walk_at "rf") => `(tactic| first | ((with_reducible refine wpG ?_); (with_reducible refine Wp.imp ?_)) | ((with_reducible refine wsG ?_); (with_reducible refine Ws.imp ?_)) | fail)
local macro_rules | `(tactic| walk_at "rf") => `(tactic| first | ((with_reducible apply wp.eq); (· with_reducible assumption)) | ((with_reducible refine lsG ?_); (intro L' hL'; (try simp only [List.set_cons_zero, List.set_cons_succ] at hL'); subst hL')) | fail)
local macro_rules | `(tactic| walk_at "rf") => `(tactic| first | ((with_reducible apply g_dr1); (· with_reducible assumption)) | ((with_reducible apply g_b2); (· with_reducible assumption); (· first | with_reducible assumption | rfl); (· first | with_reducible assumption | rfl)) | fail)
local macro_rules | `(tactic| walk_at "rf") => `(tactic| first | (with_reducible refine And.intro (List.mem_singleton.mpr rfl) ?_) | ((with_reducible apply g_drX); (· with_reducible assumption); (· with_reducible assumption); (· exact rfl)) | fail)
local macro_rules | `(tactic| walk_at "rf") => `(tactic| first | (with_reducible refine stU ?_) | ((with_reducible apply g_ins); (· with_reducible assumption)) | fail)
theorem unite_ok (A : SmA S o l a r e ts as rs es) (p : Apt o l a r e) (hts : ∀ t ∈ ts, t.ok ts.length) {P : Nat} (hP : ∀ i, (thg ts i).pts.length ≤ P) (hB : (rs.sum + es.length + 1) * (P + 1) ≤ 10 ^ 5) {u v : Nat} {w : Wy} (I : Sv ts as' rs es [⟨u, v, w⟩]) :
    @wp noXP _ (c_Sameness_unite [.obj o, nD u, nD v, w.d] S) fun d S' => Iv (∃ rs' es', S' = (S.set r (.lst (rs'.map nD))).set e (.lst (es'.map Ed.d)) ∧ SmA S' o l a r e ts as rs' es' ∧ es'.length + rs'.sum ≤ rs.sum + es.length ∧ ((d = .non ∧ Sv ts as' rs' es' []) ∨ ∃ x wt, d = x.d ∧ Sv ts as' rs' es' (x :: wt) ∧ unlB ts x.a x.b = true)) := by
  have big : 1000000 ≤ sizeLine := by decide
  have hw := Th.ok_pts hts
  apply u_Sameness_unite
  repeat' walk_at "rf"
  refine wps_whl (fun m L S' => Iv (∃ (rs2 : List Nat) (es2 dn wt : List Ed) (z6 z7 z8 z9 z10 z11 : LV), L = [.v (.obj o), .v (nD u), .v (nD v), .v w.d, .o (.lst ((dn ++ wt).map Ed.d)), .v (nD dn.length), z6, z7, z8, z9, z10, z11] ∧ SmA S' o l a r e ts as rs2 es2 ∧ S' = (S.set r (.lst (rs2.map nD))).set e (.lst (es2.map Ed.d)) ∧
    Sv ts as' rs2 es2 wt ∧ es2.length + rs2.sum ≤ rs.sum + es.length ∧ dn.length + wt.length + rs2.sum * P ≤ 1 + (rs.sum + es.length) * P ∧ m = rs2.sum * (P + 1) + wt.length)) ?_ ⟨rs, es, [], [⟨u, v, w⟩], _, _, _, _, _, _, rfl, A, by rw [set_same A.r, set_same A.e], I, by omega, by simp; have := Nat.mul_le_mul_right P (show rs.sum ≤ rs.sum + es.length by omega); omega, rfl⟩
  rintro m L S' ⟨rs2, es2, dn, wt, z6, z7, z8, z9, z10, z11, rfl, A2, hS, I2, hB1, hB2, rfl⟩
  have hlw : ((dn ++ wt).map Ed.d).length < sizeLine := by
    rw [List.length_map, List.length_append]
    have h3 : (rs.sum + es.length + 1) * (P + 1) = (rs.sum + es.length) * P + (rs.sum + es.length) + P + 1 := by rw [Nat.add_mul, Nat.mul_add]; omega
    omega
  have hlw2 := hlw
  rw [List.length_map, List.length_append] at hlw2
  cases wt with
  | nil =>
    repeat' walk_at "rf"
    · rename_i ht
      exfalso
      simp at ht
    · show Iv _
      exact ⟨rs2, es2, hS, A2, hB1, .inl ⟨rfl, I2⟩⟩
  | cons x wt =>
    have hx : oIx (.lst ((dn ++ x :: wt).map Ed.d)) (nD dn.length) = some (.tup [nD x.a, nD x.b, x.w.d]) := atI_some (by rw [List.getElem?_map]; simp; rfl)
    obtain ⟨ba, bb⟩ := I2.c.wb x (.head _)
    have h1 := root_ok A2 I2.rk ba
    have h2 := root_ok A2 I2.rk bb
    have hu := unlikeO_eq A2.l hts ba bb
    obtain ⟨hi, hl, ha, hr, he⟩ := id A2
    repeat' walk_at "rf"
    · rename_i ht
      show ∃ m', m' < _ ∧ Iv _
      have eL : (dn ++ [x]) ++ wt = dn ++ x :: wt := by simp
      have eN : nD (dn ++ [x]).length = .int ((dn.length : Int) + 1) := congrArg D.int (by simp)
      exact ⟨rs2.sum * (P + 1) + wt.length, by simp, rs2, es2, dn ++ [x], wt, _, _, _, _, _, _, by rw [eL, eN], A2, hS, I2.skip (by unfold One; omega), hB1, by simp only [List.length_append, List.length_cons, List.length_nil] at hB2 ⊢; omega, rfl⟩
    · rename_i ht
      refine ⟨fun hu1 => ?_, fun hu0 => ?_⟩
      · repeat' walk_at "rf"
        show Iv _
        exact ⟨rs2, es2, hS, A2, hB1, .inr ⟨x, wt, rfl, I2, hu1⟩⟩
      · repeat' walk_at "rf"
        unfold stopL
        have hno : ¬ One rs2 x.a x.b := by unfold One; omega
        have hsm := mg2_sum I2 hno
        have hmx : max (root rs2 x.a) (root rs2 x.b) < rs2.length := by
          have := root_le rs2 x.a
          have := root_le rs2 x.b
          rw [I2.rk.1]; omega
        refine q_uni (d := x) A2 p hmx ?_ fun S3 A3 hS3 => ?_
        · have h3 : (rs.sum + es.length + 1) * (P + 1) = (rs.sum + es.length) * P + (rs.sum + es.length) + P + 1 := by rw [Nat.add_mul, Nat.mul_add]; omega
          omega
        · have I3 := I2.add hw hno hu0
          have hS4 : S3 = (S.set r (.lst ((mg2 rs2 x).map nD))).set e (.lst ((es2 ++ [x]).map Ed.d)) := by
            rw [hS3, hS, List.set_comm _ _ (Ne.symm p.re), List.set_set, List.set_set]
            rfl
          clear h1 h2 hu hx hi hl ha hr he
          obtain ⟨hi, hl, ha, hr, he⟩ := id A3
          have e3 : oIx (.lst (ts.map Th.d)) (nD x.a) = some (thg ts x.a).d := oIx_mapL ba .row
          have e4 : oIx (.lst (ts.map Th.d)) (nD x.b) = some (thg ts x.b).d := oIx_mapL bb .row
          have hlen := unlB_len hu0
          have e7 : (es2 ++ [x]).length = es2.length + 1 := by simp
          have hfin : ∀ (z9 z10 z11 : LV), ∃ m', m' < rs2.sum * (P + 1) + (wt.length + 1) ∧ Iv (∃ (rs3 : List Nat) (es3 dn3 wt3 : List Ed) (z6 z7 z8 z9' z10' z11' : LV), [LV.v (.obj o), .v (nD u), .v (nD v), .v w.d, .o (.lst ((dn ++ x :: wt ++ ptsE ts es2.length x).map Ed.d)), .v (.int ((dn.length : Int) + 1)), .v (.tup [nD x.a, nD x.b, x.w.d]), .v (nD (root rs2 x.a)), .v (nD (root rs2 x.b)), z9, z10, z11] = [.v (.obj o), .v (nD u), .v (nD v), .v w.d, .o (.lst ((dn3 ++ wt3).map Ed.d)), .v (nD dn3.length), z6, z7, z8, z9', z10', z11'] ∧ SmA S3 o l a r e ts as rs3 es3 ∧ S3 = (S.set r (.lst (rs3.map nD))).set e (.lst (es3.map Ed.d)) ∧
              Sv ts as' rs3 es3 wt3 ∧ es3.length + rs3.sum ≤ rs.sum + es.length ∧ dn3.length + wt3.length + rs3.sum * P ≤ 1 + (rs.sum + es.length) * P ∧ m' = rs3.sum * (P + 1) + wt3.length) := by
            intro z9 z10 z11
            have eL : (dn ++ [x]) ++ (wt ++ ptsE ts es2.length x) = dn ++ x :: wt ++ ptsE ts es2.length x := by simp
            have eN : nD (dn ++ [x]).length = .int ((dn.length : Int) + 1) := congrArg D.int (by simp)
            have hpl : (ptsE ts es2.length x).length ≤ P := by unfold ptsE; rw [List.length_map, List.length_range]; exact hP _
            have hs1 : (mg2 rs2 x).sum * (P + 1) + (P + 1) ≤ rs2.sum * (P + 1) := by
              have := Nat.mul_le_mul_right (P + 1) (show (mg2 rs2 x).sum + 1 ≤ rs2.sum from hsm)
              rw [Nat.add_mul, Nat.one_mul] at this; exact this
            have hs2 : (mg2 rs2 x).sum * P + P ≤ rs2.sum * P := by
              have := Nat.mul_le_mul_right P (show (mg2 rs2 x).sum + 1 ≤ rs2.sum from hsm)
              rw [Nat.add_mul, Nat.one_mul] at this; exact this
            refine ⟨(mg2 rs2 x).sum * (P + 1) + (wt ++ ptsE ts es2.length x).length, ?_, mg2 rs2 x, es2 ++ [x], dn ++ [x], wt ++ ptsE ts es2.length x, _, _, _, _, _, _, by rw [eL, eN], A3, hS4, I3, ?_, ?_, rfl⟩
            · rw [List.length_append]; omega
            · rw [e7]; omega
            · simp only [List.length_append, List.length_cons, List.length_nil] at hB2 ⊢; omega
          cases hT : thg ts x.a with
          | tup ps =>
            cases hU : thg ts x.b with
            | tup qs =>
              rw [hT] at e3 hlen
              rw [hU] at e4 hlen
              simp only [Th.pts] at hlen
              simp only [Th.d] at e3 e4
              repeat' walk_at "rf"
              have hpl : ptsE ts es2.length x = (ptsE ts es2.length x).take ps.length := by
                rw [List.take_of_length_le]
                unfold ptsE
                rw [List.length_map, List.length_range, hT]
                exact Nat.le_refl _
              rw [enI_F]
              refine wps_en (f := nD) (fun j bs L S' => Iv (∃ (pre : List Nat) (z10 z11 : LV), ps = pre ++ bs ∧ j = (pre.length : Int) ∧ S' = S3 ∧ L = [.v (.obj o), .v (nD u), .v (nD v), .v w.d, .o (.lst ((dn ++ x :: wt ++ (ptsE ts es2.length x).take pre.length).map Ed.d)), .v (.int ((dn.length : Int) + 1)), .v (.tup [nD x.a, nD x.b, x.w.d]), .v (nD (root rs2 x.a)), .v (nD (root rs2 x.b)), .v (.tup (qs.map nD)), z10, z11])) ?_ ?_ 0 ps _ _ ⟨[], z10, z11, rfl, rfl, rfl, by rw [List.length_nil, List.take_zero, List.append_nil]; rfl⟩
              · rintro j b bs L S' ⟨pre, z10, z11, e8, rfl, rfl, rfl⟩
                have hk : pre.length < ps.length := by rw [e8]; simp
                have hq : oIx (.tup (qs.map nD)) (.int (pre.length : Int)) = some (nD (qs.getD pre.length 0)) := oIx_map (by omega) 0
                have hlw3 : ((dn ++ x :: wt ++ (ptsE ts es2.length x).take pre.length).map Ed.d).length < sizeLine := by
                  have hpq := hP x.a
                  rw [hT] at hpq
                  have hpq : ps.length ≤ P := hpq
                  rw [List.length_map, List.length_append, List.length_append, List.length_take]
                  have h3 : (rs.sum + es.length + 1) * (P + 1) = (rs.sum + es.length) * P + (rs.sum + es.length) + P + 1 := by rw [Nat.add_mul, Nat.mul_add]; omega
                  simp only [List.length_cons] at hB2 ⊢
                  omega
                refine tgX _ rfl fun L' hL' => ?_
                subst hL'
                repeat' walk_at "rf"
                have hb : ps.getD pre.length 0 = b := by rw [e8, List.getD_eq_getElem?_getD]; simp
                have hT2 : (ptsE ts es2.length x).take (pre ++ [b]).length = (ptsE ts es2.length x).take pre.length ++ [⟨b, qs.getD pre.length 0, .part es2.length pre.length⟩] := by
                  rw [List.length_append, List.length_singleton, List.take_add_one]
                  congr 1
                  unfold ptsE
                  rw [hT, hU, List.getElem?_map, List.getElem?_range (show pre.length < (Th.tup ps).pts.length from hk)]
                  show [(⟨ps.getD pre.length 0, qs.getD pre.length 0, .part es2.length pre.length⟩ : Ed)] = _
                  rw [hb]
                have hL : ∀ y : Ed, List.map Ed.d (dn ++ x :: wt ++ ((ptsE ts es2.length x).take pre.length ++ [y])) = List.map Ed.d (dn ++ x :: wt ++ (ptsE ts es2.length x).take pre.length) ++ [y.d] := fun y => by rw [← List.append_assoc, List.map_append]; rfl
                have hS1 : ((List.map Ed.d (es2 ++ [x])).length : Int) - 1 = (es2.length : Int) := by simp
                show Iv _
                exact ⟨pre ++ [b], _, _, by rw [e8]; simp, by simp, rfl, by rw [hT2, hL, hS1]; rfl⟩
              · rintro j L S' ⟨pre, z10, z11, e8, rfl, rfl, rfl⟩
                rw [List.append_nil] at e8
                subst e8
                rw [← hpl]
                repeat' walk_at "rf"
                exact hfin _ _ _
            | _ =>
              exfalso
              unfold unlB at hu0
              rw [if_neg (fun z => hno (by rw [z]; rfl))] at hu0
              have h5 : unl2 (thg ts x.a) (thg ts x.b) = false := hu0
              rw [hT, hU] at h5
              cases h5
          | _ =>
            have hpe : ptsE ts es2.length x = [] := by unfold ptsE; rw [hT]; rfl
            rw [hT] at e3
            simp only [Th.d] at e3
            rw [hpe, List.append_nil] at hfin
            repeat' walk_at "rf"
            exact hfin _ _ _
    · rename_i ht
      exfalso
      simp at ht
      omega
end
end
end Rf
set_option Elab.async false
set_option linter.all false
set_option maxRecDepth 100000
set_option maxHeartbeats 0
namespace Rf
open PySem PySem.Spec PyProof.Rows L2 TL Rf
def Wy.k : Wy → NestedKey
  | .asked i => .tup [.text ⟨sA.toArray⟩, .num (i : Int)]
  | .part j i => .tup [.text ⟨sP.toArray⟩, .num (j : Int), .num (i : Int)]
def Ed.k (x : Ed) : NestedKey := .tup [.num (x.a : Int), .num (x.b : Int), x.w.k]
theorem Ed.k_eq (x : Ed) : kNk x.d = some x.k := by
  obtain ⟨a, b, w⟩ := x
  cases w <;> rfl
theorem Ed.k_inj {x y : Ed} (h : x.k = y.k) : x = y := by
  obtain ⟨a, b, w⟩ := x
  obtain ⟨c, d, v⟩ := y
  unfold Ed.k at h
  simp only [NestedKey.tup.injEq, List.cons.injEq, NestedKey.num.injEq, and_true] at h
  obtain ⟨h1, h2, h3⟩ := h
  have e1 : a = c := by omega
  have e2 : b = d := by omega
  subst e1 e2
  cases w <;> cases v <;> simp only [Wy.k, NestedKey.tup.injEq, List.cons.injEq, NestedKey.num.injEq, and_true, List.nil_eq, reduceCtorEq, and_false] at h3
  · obtain ⟨_, h4⟩ := h3
    congr 2; omega
  · obtain ⟨_, h4, h5⟩ := h3
    congr 2 <;> omega
/-- the rows so far are right; the numbers tell them -/
structure Rws (ts : List Th) (as : List An) (vs : List D) (kvs : DctN) : Prop where
  ok : ∀ k, k < vs.length → rowB ts as vs k = true
  nb : ∀ q d, nGet kvs q = some d → ∃ (e : Ed) (j : Nat) (w : D), q = e.k ∧ d = nD j ∧ vs[j]? = some (.tup [nD e.a, nD e.b, w])
section
variable {ts : List Th} {as : List An} {es : List Ed} {vs : List D} {kvs : DctN}
theorem nGet_app {q q' : NestedKey} {d : D} (h : nGet kvs q = none) : nGet (kvs ++ [(q, d)]) q' = if q' = q then some d else nGet kvs q' := by
  unfold nGet at h ⊢
  rw [List.find?_append]
  by_cases e : q' = q
  · subst e
    rw [if_pos rfl]
    rw [Option.map_eq_none_iff] at h
    rw [h]
    simp
  · rw [if_neg e]
    cases z : kvs.find? (fun kv => decide (kv.1 = q')) with
    | some p => rfl
    | none =>
      simp only [Option.none_or, List.find?_cons, decide_eq_false (Ne.symm e), List.find?_nil]
theorem rowV_at {k : Nat} {d : D} (h : vs[k]? = some d) : rowB ts as vs k = rowV ts as vs k d := by
  unfold rowB
  rw [List.getD_eq_getElem?_getD, h]
  rfl
/-- what a row must be does not look behind it -/
theorem rowV_app {k : Nat} {d : D} {more : List D} (hk : k ≤ vs.length) : rowV ts as (vs ++ more) k d = rowV ts as vs k d := by
  have hg : ∀ e : D, isP e k = true → (vs ++ more).getD (ix e) .non = vs.getD (ix e) .non := fun e he => by
    obtain ⟨j, rfl, hj⟩ := isP_get he
    have hx : ix (nD j) = j := Int.toNat_natCast j
    rw [hx, List.getD_eq_getElem?_getD, List.getD_eq_getElem?_getD, List.getElem?_append_left (by omega)]
  unfold rowV
  split
  · rename_i a b h t
    congr 2
    unfold whyB
    split
    · rfl
    · split
      · unfold prtB
        split
        · rename_i d e
          cases hp : isP d k with
          | false => rfl
          | true => rw [hg d hp]
        · rfl
      · congr 1
        unfold chnB
        split
        · rename_i d e
          cases hp : isP d k with
          | false => rfl
          | true =>
            cases hq : isP e k with
            | false => rfl
            | true => rw [hg d hp, hg e hq]
        · rfl
  · rfl
theorem rowB_app {k : Nat} {more : List D} (hk : k < vs.length) : rowB ts as (vs ++ more) k = rowB ts as vs k := by
  have h1 : vs[k]? = some vs[k] := List.getElem?_eq_getElem hk
  have h2 : (vs ++ more)[k]? = some vs[k] := by rw [List.getElem?_append_left hk]; exact h1
  rw [rowV_at h1, rowV_at h2, rowV_app (by omega)]
theorem Rws.snoc {kvs' : DctN} {d : D} (h : Rws ts as vs kvs) (hd : rowV ts as vs vs.length d = true) (hn : ∀ q d', nGet kvs' q = some d' → ∃ (e : Ed) (j : Nat) (w : D), q = e.k ∧ d' = nD j ∧ (vs ++ [d])[j]? = some (.tup [nD e.a, nD e.b, w])) : Rws ts as (vs ++ [d]) kvs' := by
  refine ⟨fun k hk => ?_, hn⟩
  by_cases hk2 : k < vs.length
  · rw [rowB_app hk2]; exact h.ok k hk2
  · have hke : k = vs.length := by rw [List.length_append, List.length_singleton] at hk; omega
    subst hke
    rw [rowV_at (d := d) (by simp), rowV_app (Nat.le_refl _)]
    exact hd
theorem Rws.old (h : Rws ts as vs kvs) {d : D} : ∀ q d', nGet kvs q = some d' → ∃ (e : Ed) (j : Nat) (w : D), q = e.k ∧ d' = nD j ∧ (vs ++ [d])[j]? = some (.tup [nD e.a, nD e.b, w]) := fun q d' hq => by
  obtain ⟨e, j, w, h1, h2, h3⟩ := h.nb q d' hq
  exact ⟨e, j, w, h1, h2, by rw [List.getElem?_append_left (List.getElem?_eq_some_iff.mp h3).1]; exact h3⟩
theorem isP_n {k n : Nat} (h : k < n) : isP (nD k) n = true := by
  simp only [isP, Bool.and_eq_true, decide_eq_true_iff]
  omega
theorem ix_n (k : Nat) : ix (nD k) = k := Int.toNat_natCast k
theorem abt_self (a b : Nat) : abt a b a b = true := by simp [abt]
theorem row_asked {k a b i : Nat} {x : An} (ha : a < ts.length) (hb : b < ts.length) (hx : as[i]? = some x) (ht : x.t = 1) (h : abt x.a x.b a b = true) : rowV ts as vs k (.tup [nD a, nD b, .tup [.str sA, nD i]]) = true := by
  have hi := (List.getElem?_eq_some_iff.mp hx).1
  have hg : as.getD i default = x := by rw [List.getD_eq_getElem?_getD, hx]; rfl
  show (isP (nD a) ts.length && (isP (nD b) ts.length && whyB ts as vs k (ix (nD a)) (ix (nD b)) (.str sA) [nD i])) = true
  rw [isP_n ha, isP_n hb, ix_n, ix_n]
  show (true && (true && askB as a b [nD i])) = true
  show (isP (nD i) as.length && (decide ((as.getD (ix (nD i)) default).t = 1) && abt (as.getD (ix (nD i)) default).a (as.getD (ix (nD i)) default).b a b)) = true
  rw [isP_n hi, ix_n, hg, h, decide_eq_true ht]
  rfl
theorem row_part {k a b m i c d : Nat} {w : D} (ha : a < ts.length) (hb : b < ts.length) (hm : m < k) (hv : vs[m]? = some (.tup [nD c, nD d, w])) (hl : unlB ts c d = false) (h1 : (thg ts c).pts[i]? = some a) (h2 : (thg ts d).pts[i]? = some b) : rowV ts as vs k (.tup [nD a, nD b, .tup [.str sP, nD m, nD i]]) = true := by
  have hg : vs.getD m .non = .tup [nD c, nD d, w] := gD hv
  show (isP (nD a) ts.length && (isP (nD b) ts.length && whyB ts as vs k (ix (nD a)) (ix (nD b)) (.str sP) [nD m, nD i])) = true
  rw [isP_n ha, isP_n hb, ix_n, ix_n]
  show (true && (true && prtB ts vs k a b [nD m, nD i])) = true
  show (isP (nD m) k && twoB (ts.getD (rp (vs.getD (ix (nD m)) .non)).1 .row) (ts.getD (rp (vs.getD (ix (nD m)) .non)).2 .row) (nD i) a b) = true
  rw [isP_n hm, ix_n, hg]
  show twoB (ts.getD (ix (nD c)) .row) (ts.getD (ix (nD d)) .row) (nD i) a b = true
  rw [ix_n, ix_n]
  show twoB (thg ts c) (thg ts d) (nD i) a b = true
  have hlen := unlB_len hl
  generalize thg ts c = T at *
  generalize thg ts d = U at *
  cases T <;> cases U <;> first | (cases h1; done) | (cases h2; done) | skip
  rename_i ps qs
  have hlen : ps.length = qs.length := hlen
  show (decide (ps.length = qs.length) && (isP (nD i) ps.length && abt a b (ps.getD (ix (nD i)) 0) (qs.getD (ix (nD i)) 0))) = true
  have hi' : i < ps.length := (List.getElem?_eq_some_iff.mp h1).1
  rw [decide_eq_true hlen, isP_n hi', ix_n, (getD_some h1 : ps.getD i 0 = a), (getD_some h2 : qs.getD i 0 = b), abt_self]
  rfl
end
end Rf
set_option Elab.async false
set_option linter.all false
set_option maxRecDepth 100000
set_option maxHeartbeats 0
namespace Rf
open PySem PySem.Spec PyProof.Rows L2 TL Rf
theorem insOf_setN {S : Sto} {o n : Nat} {X : O} {c : Str} {ns : List Str} {ds : List D} {kvs : DctN} (h : insOf S (.obj o) = some (c, ns, ds)) (hn : S[n]? = some (.dN kvs)) : insOf (S.set n X) (.obj o) = some (c, ns, ds) := by
  unfold insOf at h ⊢
  dsimp only at h ⊢
  by_cases e : n = o
  · subst e
    rw [hn] at h
    cases h
  · have e2 : (S.set n X)[o]? = S[o]? := List.getElem?_set_ne e
    rw [e2]; exact h
theorem nLook_at {S : Sto} {N : Nat} {kvs : DctN} {y : D} {q : NestedKey} (h : S[N]? = some (.dN kvs)) (hq : kNk y = some q) : nLook S (.obj N) y = some (nGet kvs q) := by
  unfold nLook
  simp only [hq, h]
noncomputable abbrev pRow : SM := sSeq (sAppO (eVar 1) (eTup (aCons (eVar 5) (aCons (eVar 6) (aCons (eVar 9) (aNil)))))) (sSeq (sPutN (eVar 2) (eVar 8) (eBin oSub (eCall bLen (aCons (pVar 1) (aNil))) (eC (.int 1)))) (sNil))
theorem stR {L : Ls} {S : Sto} {P : Fl → Ls → Sto → Prop} (h : stopL (wps (pRow L S) P)) : wps (pRow L S) P := h
section
variable {S : Sto}
section
local macro_rules | `(tactic| walk_at "rf") => `(tactic| first | ((with_reducible refine anG ?_); ((with_reducible refine And.intro ?_ ?_); exact Nat.le_of_ble_eq_true rfl)) | fail)
local macro_rules | `(tactic| walk_at "rf") => `(tactic| first | ((with_reducible refine exG ?_); ((with_reducible apply Exists.intro); (fail_if_success (with_reducible refine g_og ?_ ?_)); (fail_if_success (with_reducible refine repG ?_)); (repeat (with_reducible apply Exists.intro)); refine And.intro rfl ?_)) | ((with_reducible refine anG ?_); ((with_reducible refine And.intro ?_ ?_); (· with_reducible assumption))) | fail)
local macro_rules | `(tactic| walk_at "rf") => `(tactic| first | ((with_reducible refine stG ?_); (intro S' hS'; (try simp only [List.cons_append, List.nil_append, List.set_cons_zero, List.set_cons_succ] at hS'); subst hS')) | ((with_reducible refine exG ?_); (with_reducible refine g_op ?_)) | fail)
local macro_rules | `(tactic| walk_at "rf") => `(tactic| first | ((with_reducible refine wpG ?_); (with_reducible refine Wp.imp ?_)) | ((with_reducible refine wsG ?_); (with_reducible refine Ws.imp ?_)) | fail)
local macro_rules | `(tactic| walk_at "rf") => `(tactic| first | ((with_reducible apply Exists.intro); (with_reducible refine And.intro ?_ ?_); (· with_reducible assumption)) | ((with_reducible apply g_dr1); (· with_reducible assumption)) | fail)
theorem q_row {R N : Nat} {vs : List D} {kvs : DctN} {q : NestedKey} {key x5 x6 x9 : D} (hR : S[R]? = some (.lst vs)) (hN : S[N]? = some (.dN kvs)) (hne : R ≠ N) (hq : kNk key = some q) (hn : nGet kvs q = none) (hz : vs.length < 100000) (hz2 : kvs.length < 100000) {z0 z3 z4 z7 : LV} {PS : Fl → Ls → Sto → Prop}
    (k : PS .nx [z0, .v (.obj R), .v (.obj N), z3, z4, .v x5, .v x6, z7, .v key, .v x9] ((S.set R (.lst (vs ++ [.tup [x5, x6, x9]]))).set N (.dN (kvs ++ [(q, nD vs.length)])))) :
    @wps noXP (pRow [z0, .v (.obj R), .v (.obj N), z3, z4, .v x5, .v x6, z7, .v key, .v x9] S) PS := by
  have big : 100000 < sizeLine := by decide
  have hz' : vs.length < sizeLine := by omega
  have hz2' : kvs.length < sizeLine := by omega
  have hR2 : (S.set R (.lst (vs ++ [.tup [x5, x6, x9]])))[R]? = some (.lst (vs ++ [.tup [x5, x6, x9]])) := at_set hR
  have hN2 : (S.set R (.lst (vs ++ [.tup [x5, x6, x9]])))[N]? = some (.dN kvs) := by rw [List.getElem?_set_ne hne]; exact hN
  have e : (((vs ++ [D.tup [x5, x6, x9]]).length : Nat) : Int) - 1 = (vs.length : Int) := by simp
  have hl : (vs ++ [D.tup [x5, x6, x9]]).length ≤ sizeLine := by rw [List.length_append, List.length_singleton]; omega
  repeat' walk_at "rf"
  rw [e]
  exact k
end
end
theorem WyOk.mono {ts : List Th} {as : List An} {es : List Ed} {k k' : Nat} {e : Ed} (h : WyOk ts as es k e) (hk : k ≤ k') : WyOk ts as es k' e := by
  unfold WyOk at h ⊢
  split at h
  · exact h
  · obtain ⟨hj, r⟩ := h
    exact ⟨by omega, r⟩
/-- a line of edges, each a part of the next -/
def Lnk (es : List Ed) (l : List Ed) : Prop := ∀ (i : Nat) (f g : Ed), l[i]? = some f → l[i + 1]? = some g → ∃ j i', f.w = .part j i' ∧ es[j]? = some g
section
variable {S : Sto} {o l a r e : Nat} {ts : List Th} {as as' : List An} {rs : List Nat} {es : List Ed}
section
local macro_rules | `(tactic| walk_at "rf") => `(tactic| first | ((with_reducible refine anG ?_); ((with_reducible refine And.intro ?_ ?_); (· with_reducible assumption))) | ((with_reducible refine anG ?_); ((with_reducible refine And.intro ?_ ?_); exact Nat.le_of_ble_eq_true rfl)) | fail)
local macro_rules | `(tactic| walk_at "rf") => `(tactic| first | ((with_reducible refine anG ?_); ((with_reducible apply r_isT); (· first | with_reducible assumption | exact rfl))) | ((with_reducible refine anG ?_); ((with_reducible apply r_isF); (· first | with_reducible assumption | exact rfl))) | fail)
local macro_rules | `(tactic| walk_at "rf") => `(tactic| first | ((with_reducible refine exG ?_); (with_reducible refine g_op ?_)) | ((with_reducible refine exG ?_); ((with_reducible apply Exists.intro); (fail_if_success (with_reducible refine g_og ?_ ?_)); (fail_if_success (with_reducible refine repG ?_)); (repeat (with_reducible apply Exists.intro)); refine And.intro rfl ?_)) | fail)
local macro_rules | `(tactic| walk_at "rf") => `(tactic| first | ((with_reducible refine wpG ?_); (with_reducible refine Wp.imp ?_)) | ((with_reducible refine wsG ?_); (with_reducible refine Ws.imp ?_)) | fail)
local macro_rules | `(tactic| walk_at "rf") => `(tactic| first | (with_reducible refine stopL_in ?_) | ((with_reducible refine lsG ?_); (intro L' hL'; (try simp only [List.set_cons_zero, List.set_cons_succ] at hL'); subst hL')) | fail)
local macro_rules | `(tactic| walk_at "rf") => `(tactic| first | ((with_reducible apply g_drX); (· with_reducible assumption); (· with_reducible assumption); (· exact rfl)) | ((with_reducible apply g_b2); (· with_reducible assumption); (· first | with_reducible assumption | rfl); (· first | with_reducible assumption | rfl)) | fail)
local macro_rules | `(tactic| walk_at "rf") => `(tactic| first | (with_reducible refine And.intro (List.mem_singleton.mpr rfl) ?_) | ((with_reducible apply Exists.intro); (with_reducible refine And.intro ?_ ?_); (· with_reducible assumption)) | fail)
local macro_rules | `(tactic| walk_at "rf") => `(tactic| first | (with_reducible refine stR ?_) | ((with_reducible apply g_ins); (· with_reducible assumption)) | fail)
theorem steps_to_ok (A : SmA S o l a r e ts as' rs es) (hwy : ∀ (k : Nat) (f : Ed), es[k]? = some f → WyOk ts as es k f) (hbd : ∀ f ∈ es, f.a < ts.length ∧ f.b < ts.length) (hlk : ∀ f ∈ es, unlB ts f.a f.b = false) (hel : es.length < 20000) {x : Ed} (hxa : x.a < ts.length) (hxb : x.b < ts.length) (hxw : WyOk ts as es es.length x)
    {R N : Nat} {vs : List D} {kvs : DctN} (hR : S[R]? = some (.lst vs)) (hN : S[N]? = some (.dN kvs)) (hRe : R ≠ e) (hRw : Rws ts as vs kvs) (hvz : vs.length < 50000) (hkz : kvs.length < 50000) :
    @wp noXP _ (c_Sameness_steps_to [.obj o, .obj R, .obj N, x.d] S) fun d S' => Iv (∃ vs' kvs' j w, S' = (S.set R (.lst vs')).set N (.dN kvs') ∧ d = nD j ∧ vs'[j]? = some (.tup [nD x.a, nD x.b, w]) ∧ Rws ts as vs' kvs' ∧ (∃ more, vs' = vs ++ more ∧ more.length ≤ es.length + 1) ∧ (x ∉ es → nGet kvs x.k = none → j + 1 = vs'.length) ∧ kvs'.length ≤ kvs.length + es.length + 1) := by
  have big : 100000 < sizeLine := by decide
  have hRN : R ≠ N := fun z => by rw [z, hN] at hR; cases hR
  have heN : e ≠ N := fun z => by have := A.e; rw [z, hN] at this; cases this
  obtain ⟨hi, hl, ha, hr, he⟩ := id A
  apply u_Sameness_steps_to
  repeat' walk_at "rf"
  have start : ∀ L0 : Ls, L0 = L0 := fun _ => rfl
  refine wps_whl (fun m L S' => Iv (∃ (ln : List Ed) (f : Ed) (z5 z6 z7 z8 z9 : LV), L = [.v (.obj o), .v (.obj R), .v (.obj N), .v x.d, .o (.lst (ln.map Ed.d)), z5, z6, z7, z8, z9] ∧ S' = S ∧ ln[0]? = some x ∧ ln[ln.length - 1]? = some f ∧ Lnk es ln ∧ (∀ i g, ln[i + 1]? = some g → g ∈ es) ∧ WyOk ts as es m f ∧ ln.length + m ≤ es.length + 1)) ?_ ⟨[x], x, _, _, _, _, _, rfl, rfl, rfl, rfl, fun i f g h1 h2 => by simp at h2, fun i g h => by simp at h, hxw, by simp; omega⟩
  rintro m L S' ⟨ln, f, z5, z6, z7, z8, z9, rfl, rfl, h0, hlast, hlnk, hmem, hwf, hlm⟩
  have hne : 0 < ln.length := (List.getElem?_eq_some_iff.mp h0).1
  have hx : oIx (.lst (ln.map Ed.d)) (.int (-1)) = some (.tup [nD f.a, nD f.b, f.w.d]) := by
    show L2.atI _ (-1) = _
    unfold L2.atI L2.ixN
    rw [List.length_map, if_neg (by omega), if_pos (by omega), Option.bind_some, show ((-1 : Int) + (ln.length : Int)).toNat = ln.length - 1 by omega, List.getElem?_map, hlast]
    rfl
  cases hfw : f.w with
  | part j i =>
    rw [hfw] at hx
    simp only [Wy.d, sP] at hx
    unfold WyOk at hwf
    rw [hfw] at hwf
    obtain ⟨hj, g, hg, hg1, hg2⟩ := hwf
    have hxg : oIx (.lst (es.map Ed.d)) (nD j) = some g.d := atI_some (by rw [List.getElem?_map, hg]; rfl)
    have hlz : (ln.map Ed.d).length < sizeLine := by rw [List.length_map]; omega
    repeat' walk_at "rf"
    refine ⟨ln ++ [g], g, _, _, _, _, _, by rw [List.map_append]; rfl, rfl, by rw [List.getElem?_append_left hne]; exact h0, by simp, fun i2 f2 g2 k1 k2 => ?_, fun i2 g2 k1 => ?_, hwy j g hg, by rw [List.length_append, List.length_singleton]; omega⟩
    · by_cases hi2 : i2 + 1 < ln.length
      · rw [List.getElem?_append_left (by omega)] at k1
        rw [List.getElem?_append_left hi2] at k2
        exact hlnk i2 f2 g2 k1 k2
      · have hi3 : i2 + 1 = ln.length := by
          have := (List.getElem?_eq_some_iff.mp k2).1
          rw [List.length_append, List.length_singleton] at this
          omega
        rw [List.getElem?_append_left (by omega), show i2 = ln.length - 1 by omega, hlast] at k1
        rw [hi3, List.getElem?_append_right (Nat.le_refl _), Nat.sub_self] at k2
        cases k1
        cases k2
        exact ⟨j, i, hfw, hg⟩
    · by_cases hi2 : i2 + 1 < ln.length
      · rw [List.getElem?_append_left hi2] at k1
        exact hmem i2 g2 k1
      · rw [List.getElem?_append_right (by omega)] at k1
        have := List.mem_of_getElem? k1
        rw [List.mem_singleton] at this
        rw [this]
        exact List.mem_of_getElem? hg
  | asked i =>
    rw [hfw] at hx
    simp only [Wy.d, sA] at hx
    repeat' walk_at "rf"
    unfold stopL
    rw [show (ln.map Ed.d).reverse = ln.reverse.map Ed.d from (List.map_reverse ..).symm]
    refine wps_ea (f := Ed.d) (fun bs L S2 => Iv (∃ (pre : List Ed) (vs2 : List D) (kvs2 : DctN) (z5 z6 z7 z8 z9 : LV), ln.reverse = pre ++ bs ∧ L = [.v (.obj o), .v (.obj R), .v (.obj N), .v x.d, .o (.lst (ln.map Ed.d)), z5, z6, z7, z8, z9] ∧ S2 = (S'.set R (.lst vs2)).set N (.dN kvs2) ∧ Rws ts as vs2 kvs2 ∧ (∃ more, vs2 = vs ++ more ∧ more.length ≤ pre.length) ∧ kvs2.length ≤ kvs.length + pre.length ∧
      (∀ g ∈ pre, ∃ jj w, nGet kvs2 g.k = some (nD jj) ∧ vs2[jj]? = some (.tup [nD g.a, nD g.b, w])) ∧ (bs = [] → x ∉ es → nGet kvs x.k = none → ∃ jj, nGet kvs2 x.k = some (nD jj) ∧ jj + 1 = vs2.length) ∧ (∀ q, nGet kvs2 q ≠ none → nGet kvs q ≠ none ∨ ∃ g ∈ pre, q = g.k))) ?_ ?_ ln.reverse _ _ ⟨[], vs, kvs, _, _, _, _, _, rfl, rfl, by rw [set_same hR, set_same hN], hRw, ⟨[], by simp, Nat.le_refl _⟩, by simp, fun g hg => by (cases hg), fun hb => absurd (congrArg List.length hb) (by rw [List.length_reverse, List.length_nil]; omega), fun q hq => .inl hq⟩
    · rintro g bs L S2 ⟨pre, vs2, kvs2, z5, z6, z7, z8, z9, e1, rfl, hS2, hR2, ⟨more, e2, e3⟩, hkl, hpre, _, hold⟩
      refine tgX _ rfl fun L' hL' => ?_
      subst hL'
      have hNat : S2[N]? = some (.dN kvs2) := by rw [hS2]; exact at_set (by rw [List.getElem?_set_ne hRN]; exact hN)
      have hRat : S2[R]? = some (.lst vs2) := by rw [hS2, List.getElem?_set_ne (Ne.symm hRN)]; exact at_set hR
      have hA2 := insOf_setN (X := .dN kvs2) (insOf_set (X := .lst vs2) hi hR) (kvs := kvs) (by rw [List.getElem?_set_ne hRN]; exact hN)
      rw [← hS2] at hA2
      have he2 : S2[e]? = some (.lst (es.map Ed.d)) := by rw [hS2, List.getElem?_set_ne (Ne.symm heN), List.getElem?_set_ne hRe]; exact he
      have hk : nLook S2 (.obj N) (.tup [nD g.a, nD g.b, g.w.d]) = some (nGet kvs2 g.k) := nLook_at hNat (Ed.k_eq g)
      have hln : ln = bs.reverse ++ g :: pre.reverse := by
        have := congrArg List.reverse e1
        rw [List.reverse_reverse] at this
        rw [this]
        simp
      have hgin : g = x ∧ bs = [] ∨ g ∈ es := by
        cases bs with
        | nil =>
          rw [List.reverse_nil, List.nil_append] at hln
          rw [hln] at h0
          exact .inl ⟨by cases h0; rfl, rfl⟩
        | cons b bs =>
          refine .inr (hmem bs.length g ?_)
          rw [hln, List.getElem?_append_right (by simp)]
          simp
      have hpin : ∀ h ∈ pre, h ∈ es := fun h hh => by
        obtain ⟨i3, hi3⟩ := List.getElem?_of_mem (List.mem_reverse.mpr hh)
        refine hmem (bs.length + i3) h ?_
        rw [hln, List.getElem?_append_right (by simp; omega), List.length_reverse, show bs.length + i3 + 1 - bs.length = i3 + 1 by omega]
        exact hi3
      have hgw : WyOk ts as es es.length g ∧ g.a < ts.length ∧ g.b < ts.length := by
        rcases hgin with ⟨rfl, _⟩ | hge
        · exact ⟨hxw, hxa, hxb⟩
        · obtain ⟨k, hk⟩ := List.getElem?_of_mem hge
          exact ⟨(hwy k g hk).mono (Nat.le_of_lt (List.getElem?_eq_some_iff.mp hk).1), hbd g hge⟩
      have hpl : pre.length + 1 + bs.length = ln.length := by rw [hln]; simp; omega
      have hkk : kNk (.tup [nD g.a, nD g.b, g.w.d]) = some g.k := Ed.k_eq g
      cases hq : nGet kvs2 g.k with
      | some d =>
        rw [hq] at hk
        obtain ⟨e', jj, w, q1, rfl, q3⟩ := hR2.nb _ _ hq
        have q1' := Ed.k_inj q1
        subst q1'
        repeat' walk_at "rf"
        refine ⟨pre ++ [g], vs2, kvs2, _, _, _, _, _, by rw [e1]; simp, rfl, hS2, hR2, ⟨more, e2, by rw [List.length_append]; omega⟩, by rw [List.length_append]; omega, fun h hh => ?_, fun hb n1 n2 => ?_, fun q hq2 => ?_⟩
        · rcases List.mem_append.mp hh with hh | hh
          · exact hpre h hh
          · rw [List.mem_singleton.mp hh]; exact ⟨jj, w, hq, q3⟩
        · exfalso
          subst hb
          rcases hgin with ⟨rfl, _⟩ | hge
          · rcases hold g.k (by rw [hq]; simp) with h | ⟨g', hg', hk'⟩
            · exact h n2
            · rw [Ed.k_inj hk'] at n1
              exact n1 (hpin g' hg')
          · rw [List.reverse_nil, List.nil_append] at hln
            rw [hln] at h0
            cases h0
            exact n1 hge
        · rcases hold q hq2 with h | ⟨g', hg', hk'⟩
          · exact .inl h
          · exact .inr ⟨g', List.mem_append.mpr (.inl hg'), hk'⟩
      | none =>
        rw [hq] at hk
        have hfin : ∀ (row w : D), row = .tup [nD g.a, nD g.b, w] → rowV ts as vs2 vs2.length row = true → ∀ (z5 z6 z7 z8 z9 : LV), Iv (∃ (pre' : List Ed) (vs3 : List D) (kvs3 : DctN) (y5 y6 y7 y8 y9 : LV), ln.reverse = pre' ++ bs ∧ [LV.v (.obj o), .v (.obj R), .v (.obj N), .v x.d, .o (.lst (ln.map Ed.d)), z5, z6, z7, z8, z9] = [.v (.obj o), .v (.obj R), .v (.obj N), .v x.d, .o (.lst (ln.map Ed.d)), y5, y6, y7, y8, y9] ∧ ((S2.set R (.lst (vs2 ++ [row]))).set N (.dN (kvs2 ++ [(g.k, nD vs2.length)]))) = (S'.set R (.lst vs3)).set N (.dN kvs3) ∧ Rws ts as vs3 kvs3 ∧ (∃ more, vs3 = vs ++ more ∧ more.length ≤ pre'.length) ∧ kvs3.length ≤ kvs.length + pre'.length ∧
            (∀ g ∈ pre', ∃ jj w, nGet kvs3 g.k = some (nD jj) ∧ vs3[jj]? = some (.tup [nD g.a, nD g.b, w])) ∧ (bs = [] → x ∉ es → nGet kvs x.k = none → ∃ jj, nGet kvs3 x.k = some (nD jj) ∧ jj + 1 = vs3.length) ∧ (∀ q, nGet kvs3 q ≠ none → nGet kvs q ≠ none ∨ ∃ g ∈ pre', q = g.k)) := by
          intro row w er hrow z5 z6 z7 z8 z9
          have hnew : (vs2 ++ [row])[vs2.length]? = some (.tup [nD g.a, nD g.b, w]) := by rw [← er]; simp
          refine ⟨pre ++ [g], vs2 ++ [row], kvs2 ++ [(g.k, nD vs2.length)], _, _, _, _, _, by rw [e1]; simp, rfl, ?_, hR2.snoc hrow fun q d' hq' => ?_, ⟨more ++ [row], by rw [e2, List.append_assoc], by rw [List.length_append, List.length_append, List.length_singleton, List.length_singleton]; omega⟩, by rw [List.length_append, List.length_append, List.length_singleton, List.length_singleton]; omega, fun h hh => ?_, fun hb n1 n2 => ?_, fun q hq2 => ?_⟩
          · rw [hS2, List.set_comm _ _ (Ne.symm hRN), List.set_set, List.set_set]
          · rw [nGet_app hq] at hq'
            split at hq'
            · rename_i eq
              cases hq'
              exact ⟨g, vs2.length, w, eq, rfl, hnew⟩
            · exact hR2.old q d' hq'
          · rw [nGet_app hq]
            split
            · rename_i eq
              rw [Ed.k_inj eq]
              exact ⟨vs2.length, w, rfl, hnew⟩
            · rename_i ne
              rcases List.mem_append.mp hh with hh | hh
              · obtain ⟨jj, w', k1, k2⟩ := hpre h hh
                exact ⟨jj, w', k1, by rw [List.getElem?_append_left (List.getElem?_eq_some_iff.mp k2).1]; exact k2⟩
              · rw [List.mem_singleton.mp hh] at ne
                exact absurd rfl ne
          · subst hb
            rcases hgin with ⟨rfl, _⟩ | hge
            · exact ⟨vs2.length, by rw [nGet_app hq, if_pos rfl], by rw [List.length_append, List.length_singleton]⟩
            · exfalso
              rw [List.reverse_nil, List.nil_append] at hln
              rw [hln] at h0
              cases h0
              exact n1 hge
          · rw [nGet_app hq] at hq2
            split at hq2
            · rename_i eq
              exact .inr ⟨g, by simp, eq⟩
            · rcases hold q hq2 with h | ⟨g', hg', hk'⟩
              · exact .inl h
              · exact .inr ⟨g', List.mem_append.mpr (.inl hg'), hk'⟩
        have hvz2 : vs2.length < 100000 := by rw [e2, List.length_append]; omega
        have hkz2 : kvs2.length < 100000 := by omega
        cases hgw' : g.w with
        | asked i2 =>
          rw [← hgw']
          have hw1 := hgw.1
          unfold WyOk at hw1
          rw [hgw'] at hw1
          obtain ⟨y, y1, y2, y3, y4⟩ := hw1
          have hrow : rowV ts as vs2 vs2.length (.tup [nD g.a, nD g.b, .tup [.str sA, nD i2]]) = true := row_asked hgw.2.1 hgw.2.2 y1 y2 (by rw [y3, y4]; exact abt_self _ _)
          have hix0 : oIx g.w.d (.int 0) = some (.str [97, 115, 107, 101, 100]) := by
            rw [hgw']
            show oIx (.tup [.str sA, nD i2]) (.int ((0 : Nat) : Int)) = _
            exact atI_some rfl
          have hdw : deref S2 g.w.d = g.w.d := by rw [hgw']; rfl
          repeat' walk_at "rf"
          unfold stopL
          refine q_row hRat hNat hRN hkk hq hvz2 hkz2 ?_
          repeat' walk_at "rf"
          show Iv _
          exact hfin _ g.w.d rfl (by rw [hgw']; exact hrow) _ _ _ _ _
        | part j2 i2 =>
          rw [← hgw']
          have hw1 := hgw.1
          unfold WyOk at hw1
          rw [hgw'] at hw1
          obtain ⟨hj2, f2, hf2, hp1, hp2⟩ := hw1
          have hpne : ∃ h rest, pre.reverse = h :: rest := by
            cases hpr : pre.reverse with
            | nil =>
              exfalso
              rw [hpr] at hln
              have hll : ln.length - 1 = bs.reverse.length := by rw [hln]; simp
              rw [hll, hln, List.getElem?_append_right (Nat.le_refl _), Nat.sub_self] at hlast
              cases hlast
              rw [hfw] at hgw'
              cases hgw'
            | cons h rest => exact ⟨h, rest, rfl⟩
          obtain ⟨h, rest, hpr⟩ := hpne
          have hhp : h ∈ pre := by rw [← List.mem_reverse, hpr]; exact .head _
          obtain ⟨j3, i3, hw3, he3⟩ := hlnk bs.reverse.length g h (by rw [hln, List.getElem?_append_right (Nat.le_refl _), Nat.sub_self]; rfl) (by rw [hln, hpr, List.getElem?_append_right (by omega), show bs.reverse.length + 1 - bs.reverse.length = 1 by omega]; rfl)
          rw [hgw'] at hw3
          cases hw3
          rw [hf2] at he3
          cases he3
          obtain ⟨mm, w9, hm1, hm2⟩ := hpre f2 hhp
          obtain ⟨fa, fb⟩ := hbd f2 (List.mem_of_getElem? hf2)
          have hmk : mm < vs2.length := (List.getElem?_eq_some_iff.mp hm2).1
          have hrow : rowV ts as vs2 vs2.length (.tup [nD g.a, nD g.b, .tup [.str sP, nD mm, nD i2]]) = true := row_part hgw.2.1 hgw.2.2 hmk hm2 (hlk f2 (List.mem_of_getElem? hf2)) hp1 hp2
          have hix0 : oIx g.w.d (.int 0) = some (.str [112, 97, 114, 116]) := by
            rw [hgw']
            show oIx (.tup [.str sP, nD j2, nD i2]) (.int ((0 : Nat) : Int)) = _
            exact atI_some rfl
          have hix1 : oIx g.w.d (.int 1) = some (nD j2) := by
            rw [hgw']
            show oIx (.tup [.str sP, nD j2, nD i2]) (.int ((1 : Nat) : Int)) = _
            exact atI_some rfl
          have hix2 : oIx g.w.d (.int 2) = some (nD i2) := by
            rw [hgw']
            show oIx (.tup [.str sP, nD j2, nD i2]) (.int ((2 : Nat) : Int)) = _
            exact atI_some rfl
          have hdw : deref S2 g.w.d = g.w.d := by rw [hgw']; rfl
          have hxg : oIx (.lst (es.map Ed.d)) (nD j2) = some f2.d := atI_some (by rw [List.getElem?_map, hf2]; rfl)
          have hk2 : nLook S2 (.obj N) f2.d = some (some (nD mm)) := by rw [nLook_at hNat (Ed.k_eq f2), hm1]
          repeat' walk_at "rf"
          unfold stopL
          refine q_row hRat hNat hRN hkk hq hvz2 hkz2 ?_
          repeat' walk_at "rf"
          show Iv _
          exact hfin _ _ rfl hrow _ _ _ _ _
    · rintro L S2 ⟨pre, vs2, kvs2, z5, z6, z7, z8, z9, e1, rfl, hS2, hR2, ⟨more, e2, e3⟩, hkl, hpre, hlx, hold⟩
      rw [List.append_nil] at e1
      have hNat : S2[N]? = some (.dN kvs2) := by rw [hS2]; exact at_set (by rw [List.getElem?_set_ne hRN]; exact hN)
      have hxm : x ∈ pre := by rw [← e1, List.mem_reverse]; exact List.mem_of_getElem? h0
      obtain ⟨jj, w, k1, k2⟩ := hpre x hxm
      have hk : nLook S2 (.obj N) x.d = some (some (nD jj)) := by rw [nLook_at hNat (Ed.k_eq x), k1]
      have hpl : pre.length = ln.length := by rw [← e1, List.length_reverse]
      repeat' walk_at "rf"
      show Iv _
      refine ⟨vs2, kvs2, jj, w, hS2, rfl, k2, hR2, ⟨more, e2, by omega⟩, fun q1 q2 => ?_, by omega⟩
      obtain ⟨j2, k3, k4⟩ := hlx rfl q1 q2
      rw [k1] at k3
      have : jj = j2 := by
        have h9 : (nD jj) = nD j2 := Option.some.inj k3
        have h8 : ((jj : Int)) = (j2 : Int) := D.int.inj h9
        omega
      omega
end
end
end Rf
set_option Elab.async false
set_option linter.all false
set_option maxRecDepth 100000
set_option maxHeartbeats 0
namespace Rf
open PySem PySem.Spec PyProof.Rows L2 TL Rf
theorem nodup_lt : ∀ {n : Nat} {W : List Nat}, W.Nodup → (∀ y ∈ W, y < n) → W.length ≤ n := by
  have key : ∀ (n : Nat) (W : List Nat), W.Nodup → (∀ y ∈ W, y < n) → W.length ≤ n := by
    intro n
    induction n with
    | zero =>
      intro W _ h
      cases W with
      | nil => exact Nat.le_refl _
      | cons y W => exact absurd (h y (.head _)) (Nat.not_lt_zero _)
    | succ n ih =>
      intro W hn h
      have h1 : (W.filter fun y => decide (y ≠ n)).length ≤ n := ih _ (hn.sublist List.filter_sublist) fun y hy => by
        obtain ⟨h2, h3⟩ := List.mem_filter.mp hy
        have := h y h2
        have h3 := of_decide_eq_true h3
        omega
      have h2 : W.length ≤ (W.filter fun y => decide (y ≠ n)).length + 1 := by
        clear ih h h1
        induction W with
        | nil => exact Nat.zero_le _
        | cons y W ih =>
          rw [List.nodup_cons] at hn
          by_cases hy : y = n
          · rw [List.filter_cons_of_neg (by simp [hy]), List.length_cons]
            have : W.filter (fun y => decide (y ≠ n)) = W := List.filter_eq_self.mpr fun z hz => decide_eq_true fun e => hn.1 (by rw [hy, ← e]; exact hz)
            rw [this]
            exact Nat.le_refl _
          · rw [List.filter_cons_of_pos (by simp [hy]), List.length_cons, List.length_cons]
            have := ih hn.2
            omega
      omega
  exact fun {n W} => key n W
/-- what has been met so far -/
structure Bf (es : List Ed) (n one : Nat) (W : List Nat) (kvs : DctK) : Prop where
  h0 : W[0]? = some one
  nd : W.Nodup
  bd : ∀ y ∈ W, y < n
  ky : ∀ y : Nat, (dGetK kvs (.inl (y : Int))).isSome = decide (y ∈ W)
  k0 : dGetK kvs (.inl (one : Int)) = some .non
  kp : ∀ (i y : Nat), W[i + 1]? = some y → ∃ e ∈ es, ∃ h i', dGetK kvs (.inl (y : Int)) = some (.tup [e.d, nD h]) ∧ abt e.a e.b h y = true ∧ i' ≤ i ∧ W[i']? = some h
  kl : kvs.length ≤ W.length
theorem get_putK {kvs : DctK} {q q' : Key} {d : D} : dGetK (dPutK kvs q d) q' = if q' = q then some d else dGetK kvs q' := by
  unfold dPutK dGetK
  by_cases ha : (kvs.any fun kv => decide (kv.1 = q)) = true
  · rw [if_pos ha, List.find?_map]
    have hf : ((fun kv : Key × D => decide (kv.1 = q')) ∘ fun kv => if kv.1 = q then (kv.1, d) else kv) = fun kv => decide (kv.1 = q') := by
      funext kv
      show decide ((if kv.1 = q then (kv.1, d) else kv).1 = q') = _
      split <;> rfl
    rw [hf]
    by_cases hq : q' = q
    · rw [if_pos hq]
      rw [List.any_eq_true] at ha
      obtain ⟨kv, h1, h2⟩ := ha
      cases z : kvs.find? (fun kv => decide (kv.1 = q')) with
      | none =>
        rw [List.find?_eq_none] at z
        have := z kv h1
        rw [hq] at this
        exact absurd h2 this
      | some kv' =>
        have h3 := List.find?_some z
        have h4 := of_decide_eq_true h3
        show some (if kv'.1 = q then (kv'.1, d) else kv').2 = _
        rw [if_pos (h4.trans hq)]
    · rw [if_neg hq]
      cases z : kvs.find? (fun kv => decide (kv.1 = q')) with
      | none => rfl
      | some kv' =>
        have h3 := List.find?_some z
        have h4 := of_decide_eq_true h3
        show some (if kv'.1 = q then (kv'.1, d) else kv').2 = some kv'.2
        rw [if_neg (fun e => hq (h4.symm.trans e))]
  · rw [if_neg ha, List.find?_append]
    by_cases hq : q' = q
    · rw [if_pos hq]
      cases z : kvs.find? (fun kv => decide (kv.1 = q')) with
      | none => subst hq; simp
      | some kv' =>
        exfalso
        refine ha (List.any_eq_true.mpr ⟨kv', List.mem_of_find?_eq_some z, ?_⟩)
        have := List.find?_some z
        rw [hq] at this
        exact this
    · rw [if_neg hq]
      cases z : kvs.find? (fun kv => decide (kv.1 = q')) with
      | some kv' => rfl
      | none => simp [List.find?_cons, decide_eq_false (Ne.symm hq)]
theorem putK_len {kvs : DctK} {q : Key} {d : D} : (dPutK kvs q d).length ≤ kvs.length + 1 := by
  unfold dPutK
  split
  · rw [List.length_map]; omega
  · rw [List.length_append]; exact Nat.le_refl _
section
variable {es : List Ed} {n one : Nat} {W : List Nat} {kvs : DctK}
theorem Bf.add (B : Bf es n one W kvs) {e : Ed} {here far i' : Nat} (he : e ∈ es) (hh : W[i']? = some here) (hf : far ∉ W) (hfn : far < n) (ha : abt e.a e.b here far = true) : Bf es n one (W ++ [far]) (dPutK kvs (.inl (far : Int)) (.tup [e.d, nD here])) := by
  have hone : one ∈ W := List.mem_of_getElem? B.h0
  have hi' := (List.getElem?_eq_some_iff.mp hh).1
  have nkey : ∀ y : Nat, (Sum.inl (y : Int) : Key) = Sum.inl (far : Int) ↔ y = far := fun y => ⟨fun z => by have := Sum.inl.inj z; omega, fun z => by rw [z]⟩
  refine ⟨by rw [List.getElem?_append_left (List.getElem?_eq_some_iff.mp B.h0).1]; exact B.h0, ?_, fun y hy => ?_, fun y => ?_, ?_, fun i y hy => ?_, ?_⟩
  · rw [List.nodup_append]
    exact ⟨B.nd, by simp, fun a ha b hb z => hf (by rw [List.mem_singleton.mp hb] at z; rw [← z]; exact ha)⟩
  · rcases List.mem_append.mp hy with hy | hy
    · exact B.bd y hy
    · rw [List.mem_singleton.mp hy]; exact hfn
  · rw [get_putK]
    by_cases hy : y = far
    · rw [if_pos ((nkey y).mpr hy)]
      simp [hy]
    · rw [if_neg (fun z => hy ((nkey y).mp z)), B.ky y]
      simp [hy]
  · rw [get_putK, if_neg (fun z => hf (by rw [← (nkey one).mp z]; exact hone))]
    exact B.k0
  · by_cases hi : i + 1 < W.length
    · rw [List.getElem?_append_left hi] at hy
      obtain ⟨e2, he2, h, j, q1, q2, q3, q4⟩ := B.kp i y hy
      have hym : y ∈ W := List.mem_of_getElem? hy
      exact ⟨e2, he2, h, j, by rw [get_putK, if_neg (fun z => hf (by rw [← (nkey y).mp z]; exact hym))]; exact q1, q2, q3, by rw [List.getElem?_append_left (by omega)]; exact q4⟩
    · have hil : i + 1 = W.length := by
        have := (List.getElem?_eq_some_iff.mp hy).1
        rw [List.length_append, List.length_singleton] at this
        omega
      rw [hil, List.getElem?_append_right (Nat.le_refl _), Nat.sub_self] at hy
      cases hy
      exact ⟨e, he, here, i', by rw [get_putK, if_pos rfl], ha, by omega, by rw [List.getElem?_append_left hi']; exact hh⟩
  · have := putK_len (kvs := kvs) (q := .inl (far : Int)) (d := .tup [e.d, nD here])
    have := B.kl
    rw [List.length_append, List.length_singleton]
    omega
end
end Rf
set_option Elab.async false
set_option linter.all false
set_option maxRecDepth 100000
set_option maxHeartbeats 0
namespace Rf
open PySem PySem.Spec PyProof.Rows L2 TL Rf
noncomputable abbrev pS : SM := sFrz 3 (sIf (tAn (tOfE (eBin cEq (pVar 8) (pVar 6))) (tOfE (eInO true (eVar 9) (eVar 3)))) (sSeq (sFrz 3 (sPutD (eVar 3) (eVar 9) (eTup (aCons (eVar 7) (aCons (eVar 6) (aNil)))))) (sSeq (sApp 4 (eVar 9)) (sNil))) (sNil))
theorem stS {L : Ls} {S : Sto} {P : Fl → Ls → Sto → Prop} (h : stopL (wps (pS L S) P)) : wps (pS L S) P := h
theorem dLook_at {S : Sto} {C : Nat} {kvs : DctK} {y : D} {q : Key} (h : S[C]? = some (.dK kvs)) (hq : kKey y = some q) : dLook S (.obj C) y = some (dGetK kvs q) := by
  unfold dLook
  simp only [h, hq, Option.map_some]
section
variable {es : List Ed} {n one : Nat} {W : List Nat} {kvs : DctK} {S : Sto}
section
local macro_rules | `(tactic| walk_at "rf") => `(tactic| first | ((with_reducible refine anG ?_); ((with_reducible refine And.intro ?_ ?_); exact Nat.le_of_ble_eq_true rfl)) | fail)
local macro_rules | `(tactic| walk_at "rf") => `(tactic| first | ((with_reducible refine anG ?_); ((with_reducible refine And.intro ?_ ?_); exact rfl)) | ((with_reducible refine anG ?_); ((with_reducible refine And.intro ?_ ?_); (· with_reducible assumption))) | fail)
local macro_rules | `(tactic| walk_at "rf") => `(tactic| first | ((with_reducible refine anG ?_); ((with_reducible apply r_isF); (· first | with_reducible assumption | exact rfl))) | ((with_reducible refine anG ?_); ((with_reducible refine r_dec (fun ht => ?_) (fun ht => ?_)) <;> first | (exfalso; omega) | skip)) | fail)
local macro_rules | `(tactic| walk_at "rf") => `(tactic| first | ((with_reducible refine exG ?_); ((with_reducible apply Exists.intro); (fail_if_success (with_reducible refine g_og ?_ ?_)); (fail_if_success (with_reducible refine repG ?_)); (repeat (with_reducible apply Exists.intro)); refine And.intro rfl ?_)) | ((with_reducible refine anG ?_); ((with_reducible apply r_isT); (· first | with_reducible assumption | exact rfl))) | fail)
local macro_rules | `(tactic| walk_at "rf") => `(tactic| first | ((with_reducible refine stG ?_); (intro S' hS'; (try simp only [List.cons_append, List.nil_append, List.set_cons_zero, List.set_cons_succ] at hS'); subst hS')) | ((with_reducible refine exG ?_); (with_reducible refine g_op ?_)) | fail)
local macro_rules | `(tactic| walk_at "rf") => `(tactic| first | ((with_reducible refine wpG ?_); (with_reducible refine Wp.imp ?_)) | ((with_reducible refine wsG ?_); (with_reducible refine Ws.imp ?_)) | fail)
local macro_rules | `(tactic| walk_at "rf") => `(tactic| first | ((with_reducible apply Exists.intro); (with_reducible refine And.intro ?_ ?_); (· with_reducible assumption)) | ((with_reducible refine lsG ?_); (intro L' hL'; (try simp only [List.set_cons_zero, List.set_cons_succ] at hL'); subst hL')) | fail)
theorem q_stp (B : Bf es n one W kvs) {e : Ed} {here near far i' C : Nat} (hC : S[C]? = some (.dK kvs)) (he : e ∈ es) (hh : W[i']? = some here) (hfn : far < n) (ha : near = here → abt e.a e.b here far = true) (hz : n < 100000) {z0 z1 z2 z5 z10 : LV} {PS : Fl → Ls → Sto → Prop}
    (k : ∀ W' kvs' S', Bf es n one W' kvs' → (∃ more, W' = W ++ more) → (near = here → far ∈ W') → S' = S.set C (.dK kvs') → PS .nx [z0, z1, z2, .v (.obj C), .o (.lst (W'.map nD)), z5, .v (nD here), .v e.d, .v (nD near), .v (nD far), z10] S') :
    @wps noXP (pS [z0, z1, z2, .v (.obj C), .o (.lst (W.map nD)), z5, .v (nD here), .v e.d, .v (nD near), .v (nD far), z10] S) PS := by
  have big : 100000 < sizeLine := by decide
  have hkk : kKey (nD far) = some (.inl (far : Int)) := rfl
  have hk := dLook_at hC hkk
  have hW := nodup_lt B.nd B.bd
  have hWz : (W.map nD).length < sizeLine := by rw [List.length_map]; omega
  have hkz : kvs.length < sizeLine := by have := B.kl; omega
  have hky := B.ky far
  by_cases hf : far ∈ W
  · rw [decide_eq_true hf] at hky
    have hsame : S = S.set C (.dK kvs) := (set_same hC).symm
    cases hq : dGetK kvs (.inl (far : Int)) with
    | none => rw [hq] at hky; cases hky
    | some d =>
      rw [hq] at hk
      repeat' walk_at "rf"
      all_goals exact k W kvs S B ⟨[], by simp⟩ (fun _ => hf) hsame
  · rw [decide_eq_false hf] at hky
    cases hq : dGetK kvs (.inl (far : Int)) with
    | some d => rw [hq] at hky; cases hky
    | none =>
      rw [hq] at hk
      by_cases hnh : near = here
      · have B2 := B.add he hh hf hfn (ha hnh)
        have k2 := k _ _ _ B2 ⟨[far], rfl⟩ (fun _ => by simp) rfl
        rw [List.map_append] at k2
        repeat' walk_at "rf"
        exact k2
      · have hsame : S = S.set C (.dK kvs) := (set_same hC).symm
        repeat' walk_at "rf"
        exact k W kvs S B ⟨[], by simp⟩ (fun z => absurd z hnh) hsame
end
end
end Rf
set_option Elab.async false
set_option linter.all false
set_option maxRecDepth 100000
set_option maxHeartbeats 0
namespace Rf
open PySem PySem.Spec PyProof.Rows L2 TL Rf
def Pth (es : List Ed) : Nat → List (Ed × Nat) → Nat → Prop
  | p, [], q => p = q
  | p, (e, h) :: w, q => e ∈ es ∧ abt e.a e.b p h = true ∧ Pth es h w q
theorem at_app {S : Sto} {X : O} : (S ++ [X])[S.length]? = some X := by simp
theorem set_app {S : Sto} {X Y : O} : (S ++ [X]).set S.length Y = S ++ [Y] := by simp
theorem at_pre {S : Sto} {n : Nat} {X : O} (h : S[n]? = some X) (G : Sto) : (S ++ G)[n]? = some X := by rw [List.getElem?_append_left (List.getElem?_eq_some_iff.mp h).1]; exact h
theorem insOf_pre {S : Sto} {o : Nat} {c : Str} {ns : List Str} {ds : List D} (h : insOf S (.obj o) = some (c, ns, ds)) (G : Sto) : insOf (S ++ G) (.obj o) = some (c, ns, ds) := by
  unfold insOf at h ⊢
  dsimp only at h ⊢
  split at h
  · rename_i q
    rw [at_pre q G]
    exact h
  · cases h
theorem SmA.pre {S : Sto} {o l a r e : Nat} {ts : List Th} {as : List An} {rs : List Nat} {es : List Ed} (A : SmA S o l a r e ts as rs es) (G : Sto) : SmA (S ++ G) o l a r e ts as rs es :=
  ⟨insOf_pre A.i G, at_pre A.l G, at_pre A.a G, at_pre A.r G, at_pre A.e G⟩
theorem stL11 {L : Ls} {S : Sto} {c : Ls → Sto → R Bool} {b : SM} {P : Fl → Ls → Sto → Prop} (h : stopL (wps (sWhl c b L S) P)) : wps (sWhl c b L S) P := h
theorem Bf.start {es : List Ed} {n p : Nat} (hp : p < n) : Bf es n p [p] (mgK [] [(.inl (p : Int), .non)]) := by
  have e : mgK [] [((Sum.inl (p : Int) : Key), D.non)] = [(.inl (p : Int), .non)] := rfl
  rw [e]
  have hg : ∀ y : Nat, dGetK [((Sum.inl (p : Int) : Key), D.non)] (.inl (y : Int)) = if y = p then some .non else none := fun y => by
    unfold dGetK
    by_cases h : y = p
    · subst h; simp
    · have : ¬ ((Sum.inl (p : Int) : Key) = Sum.inl (y : Int)) := fun z => h (by have := Sum.inl.inj z; omega)
      have hd : decide ((Sum.inl (p : Int) : Key) = Sum.inl (y : Int)) = false := decide_eq_false this
      rw [List.find?_cons]
      simp only [hd]
      simp [h]
  refine ⟨rfl, by simp, fun y hy => by rw [List.mem_singleton.mp hy]; exact hp, fun y => ?_, by rw [hg, if_pos rfl], fun i y h => by simp at h, Nat.le_refl _⟩
  rw [hg]
  by_cases h : y = p <;> simp [h]
section
variable {S : Sto} {o l a r e : Nat} {ts : List Th} {as : List An} {rs : List Nat} {es : List Ed}
section
local macro_rules | `(tactic| walk_at "rf") => `(tactic| first | ((with_reducible refine anG ?_); ((with_reducible refine And.intro ?_ ?_); (· with_reducible assumption))) | ((with_reducible refine anG ?_); ((with_reducible refine And.intro ?_ ?_); exact Nat.le_of_ble_eq_true rfl)) | fail)
local macro_rules | `(tactic| walk_at "rf") => `(tactic| first | ((with_reducible refine anG ?_); ((with_reducible apply r_isT); (· first | with_reducible assumption | exact rfl))) | ((with_reducible refine anG ?_); ((with_reducible apply r_isF); (· first | with_reducible assumption | exact rfl))) | fail)
local macro_rules | `(tactic| walk_at "rf") => `(tactic| first | ((with_reducible refine exG ?_); (with_reducible refine g_op ?_)) | ((with_reducible refine exG ?_); ((with_reducible apply Exists.intro); (fail_if_success (with_reducible refine g_og ?_ ?_)); (fail_if_success (with_reducible refine repG ?_)); (repeat (with_reducible apply Exists.intro)); refine And.intro rfl ?_)) | fail)
local macro_rules | `(tactic| walk_at "rf") => `(tactic| first | ((with_reducible refine wsG ?_); ((with_reducible apply f_consC); (· exact rfl))) | ((with_reducible refine wsG ?_); ((with_reducible apply f_nil); (· exact rfl))) | fail)
local macro_rules | `(tactic| walk_at "rf") => `(tactic| first | ((with_reducible refine wpG ?_); (with_reducible refine Wp.imp ?_)) | ((with_reducible refine wsG ?_); (with_reducible refine Ws.imp ?_)) | fail)
local macro_rules | `(tactic| walk_at "rf") => `(tactic| first | ((with_reducible apply Exists.intro); (with_reducible refine And.intro ?_ ?_); (· with_reducible assumption)) | ((with_reducible refine lsG ?_); (intro L' hL'; (try simp only [List.set_cons_zero, List.set_cons_succ] at hL'); subst hL')) | fail)
local macro_rules | `(tactic| walk_at "rf") => `(tactic| first | ((with_reducible refine ntG ?_); (intro n hn; subst hn)) | (with_reducible refine And.intro at_app ?_) | fail)
local macro_rules | `(tactic| walk_at "rf") => `(tactic| first | ((with_reducible apply g_src); (· with_reducible assumption)) | ((with_reducible refine stG ?_); (intro S' hS'; (try rw [set_app] at hS'); subst hS')) | fail)
local macro_rules | `(tactic| walk_at "rf") => `(tactic| first | ((with_reducible apply g_ins); (· with_reducible assumption)) | (with_reducible refine And.intro (List.mem_singleton.mpr rfl) ?_) | fail)
local macro_rules | `(tactic| walk_at "rf") => `(tactic| first | (with_reducible refine stS ?_) | (with_reducible refine stL11 ?_) | fail)
theorem way_ok (A : SmA S o l a r e ts as rs es) (hn : ts.length < 20000) (hbd : ∀ f ∈ es, f.a < ts.length ∧ f.b < ts.length)
    (sp : ∀ M : Nat → Nat → Prop, (∀ p, M p p) → (∀ {p q}, M p q → M q p) → (∀ {p q r}, M p q → M q r → M p r) → (∀ e ∈ es, M e.a e.b) → ∀ p q, One rs p q → M p q) {p q : Nat} (hp : p < ts.length) (hq : q < ts.length) (h1 : One rs p q) :
    @wp noXP _ (c_Sameness_way_between [.obj o, nD p, nD q] S) fun d S' => Iv (∃ (way : List (Ed × Nat)) (G : Sto), d = .lst (way.map fun x => D.tup [x.1.d, nD x.2]) ∧ S' = S ++ G ∧ Pth es p way q ∧ way.length ≤ ts.length ∧ (p = q → way = [])) := by
  have big : 100000 < sizeLine := by decide
  apply u_Sameness_way_between
  repeat' walk_at "rf"
  unfold stopL
  have hE := A.e
  refine wps_whl (fun m L S' => Iv (∃ (W : List Nat) (kvs : DctK) (at' : Nat) (z6 z7 z8 z9 z10 : LV), L = [.v (.obj o), .v (nD p), .v (nD q), .v (.obj S.length), .o (.lst (W.map nD)), .v (nD at'), z6, z7, z8, z9, z10] ∧ S' = S ++ [.dK kvs] ∧ Bf es ts.length p W kvs ∧ at' ≤ W.length ∧ (∀ i y, i < at' → W[i]? = some y → ∀ f ∈ es, (f.a = y → f.b ∈ W) ∧ (f.b = y → f.a ∈ W)) ∧ m + at' = ts.length + 1 ∧ (p = q → W.length ≤ 1))) ?_ (m := ts.length + 1) ⟨[p], _, 0, _, _, _, _, _, rfl, rfl, Bf.start hp, by simp, fun i y hi => absurd hi (Nat.not_lt_zero _), rfl, fun _ => Nat.le_refl _⟩
  rintro m L S' ⟨W, kvs, at', z6, z7, z8, z9, z10, rfl, hS, B, hat, hpr, hm, hpq⟩
  have hC : S'[S.length]? = some (.dK kvs) := by rw [hS]; exact at_app
  have hk := dLook_at (y := nD q) hC rfl
  have hE2 : S'[e]? = some (.lst (es.map Ed.d)) := by rw [hS]; exact at_pre hE _
  have hi2 := insOf_pre A.i [O.dK kvs]
  rw [← hS] at hi2
  have hky := B.ky q
  have hW := nodup_lt B.nd B.bd
  by_cases hqW : q ∈ W
  · rw [decide_eq_true hqW] at hky
    cases hq : dGetK kvs (.inl (q : Int)) with
    | none => rw [hq] at hky; cases hky
    | some d =>
      rw [hq] at hk
      repeat' walk_at "rf"
      unfold stopL
      clear hq hk d hky
      obtain ⟨iq, hiq⟩ := List.getElem?_of_mem hqW
      refine wps_whl (fun m L S2 => Iv (∃ (acc : List (Ed × Nat)) (here : Nat) (z4 z5 z7 z8 z9 : LV), L = [.v (.obj o), .v (nD p), .v (nD q), .v (.obj S.length), z4, z5, .v (nD here), z7, z8, z9, .o (.lst (acc.map fun x => D.tup [x.1.d, nD x.2]))] ∧ S2 = S' ∧ W[m]? = some here ∧ Pth es here acc.reverse q ∧ acc.length + m < W.length)) ?_ ⟨[], q, _, _, _, _, _, rfl, rfl, hiq, rfl, by have := (List.getElem?_eq_some_iff.mp hiq).1; simpa using this⟩
      rintro m2 L2 S2 ⟨acc, here, z4, z5, z7, z8, z9, rfl, rfl, hWm, hpth, hacc⟩
      have hkh : kKey (nD here) = some (.inl (here : Int)) := rfl
      have hk := dLook_at hC hkh
      cases m2 with
      | zero =>
        have hph : here = p := by have := B.h0; rw [hWm] at this; exact Option.some.inj this
        subst hph
        rw [B.k0] at hk
        repeat' walk_at "rf"
        show Iv _
        exact ⟨acc.reverse, [.dK kvs], by rw [List.map_reverse], hS, hpth, by rw [List.length_reverse]; omega, fun h => by
          have h2 := hpq h
          have h3 : acc.length = 0 := by omega
          rw [List.length_eq_zero_iff.mp h3]; rfl⟩
      | succ m2 =>
        obtain ⟨e2, he2, h, i', q1, q2, q3, q4⟩ := B.kp m2 here hWm
        rw [q1] at hk
        have hz : (acc.map fun x => D.tup [x.1.d, nD x.2]).length < sizeLine := by rw [List.length_map]; omega
        repeat' walk_at "rf"
        show ∃ m', m' < _ ∧ Iv _
        exact ⟨i', by omega, acc ++ [(e2, here)], h, _, _, _, _, _, by rw [List.map_append]; rfl, rfl, q4, by rw [List.reverse_append]; exact ⟨he2, q2, hpth⟩, by rw [List.length_append, List.length_singleton]; omega⟩
  · rw [decide_eq_false hqW] at hky
    cases hq : dGetK kvs (.inl (q : Int)) with
    | some d => rw [hq] at hky; cases hky
    | none =>
      rw [hq] at hk
      have hlt : at' < W.length := by
        refine Nat.lt_of_le_of_ne hat fun he => hqW ?_
        have key := sp (fun x y => (x ∈ W ↔ y ∈ W)) (fun _ => Iff.rfl) (fun h => h.symm) (fun h k => h.trans k) (fun f hf => ⟨fun hm => ?_, fun hm => ?_⟩) p q h1
        · exact key.mp (List.mem_of_getElem? B.h0)
        · obtain ⟨i, hi⟩ := List.getElem?_of_mem hm
          exact (hpr i f.a (by have := (List.getElem?_eq_some_iff.mp hi).1; omega) hi f hf).1 rfl
        · obtain ⟨i, hi⟩ := List.getElem?_of_mem hm
          exact (hpr i f.b (by have := (List.getElem?_eq_some_iff.mp hi).1; omega) hi f hf).2 rfl
      have hx : oIx (.lst (W.map nD)) (nD at') = some (nD (W.getD at' 0)) := ix_nat 0 hlt
      have hWat : W[at']? = some (W.getD at' 0) := some_getD hlt
      generalize W.getD at' 0 = here at hx hWat
      repeat' walk_at "rf"
      refine wps_eaB (f := Ed.d) (fun bs L S2 => Iv (∃ (pre : List Ed) (W2 : List Nat) (kvs2 : DctK) (z7 z8 z9 z10 : LV), es = pre ++ bs ∧ L = [.v (.obj o), .v (nD p), .v (nD q), .v (.obj S.length), .o (.lst (W2.map nD)), .v (.int ((at' : Int) + 1)), .v (nD here), z7, z8, z9, z10] ∧ S2 = S ++ [.dK kvs2] ∧ Bf es ts.length p W2 kvs2 ∧ (∃ more, W2 = W ++ more) ∧ ∀ f ∈ pre, (f.a = here → f.b ∈ W2) ∧ (f.b = here → f.a ∈ W2))) ?_ ?_ ?_ es _ _ ⟨[], W, kvs, _, _, _, _, rfl, rfl, hS, B, ⟨[], by simp⟩, fun f hf => by (cases hf)⟩
      · rintro ll hll bs L S2 ⟨pre, W2, kvs2, z7, z8, z9, z10, e1, rfl, hS2, B2, e2, e3⟩
        cases hll
        exact dep1 (by rw [hS2]; exact at_pre hE _)
      · rintro f bs L S2 ⟨pre, W2, kvs2, z7, z8, z9, z10, e1, rfl, hS2, B2, ⟨more, e2⟩, e3⟩
        have hf : f ∈ es := by rw [e1]; simp
        obtain ⟨fa, fb⟩ := hbd f hf
        have hC2 : S2[S.length]? = some (.dK kvs2) := by rw [hS2]; exact at_app
        have hW2 : W2[at']? = some here := by rw [e2, List.getElem?_append_left hlt]; exact hWat
        refine tgX _ rfl fun L' hL' => ?_
        subst hL'
        repeat' walk_at "rf"
        unfold stopL
        refine q_stp (near := f.a) (far := f.b) (here := here) (e := f) B2 hC2 hf hW2 fb (fun z => by rw [z]; exact abt_self _ _) (by omega) fun W3 kvs3 S3 B3 ⟨more3, e4⟩ e5 hS3 => ?_
        have hS3' : S3 = S ++ [.dK kvs3] := by rw [hS3, hS2, set_app]
        have hC3 : S3[S.length]? = some (.dK kvs3) := by rw [hS3']; exact at_app
        have hW3 : W3[at']? = some here := by rw [e4, List.getElem?_append_left (List.getElem?_eq_some_iff.mp hW2).1]; exact hW2
        repeat' walk_at "rf"
        unfold stopL
        refine q_stp (near := f.b) (far := f.a) (here := here) (e := f) B3 hC3 hf hW3 fa (fun z => by rw [z]; unfold abt; simp) (by omega) fun W4 kvs4 S4 B4 ⟨more4, e6⟩ e7 hS4 => ?_
        have hS4' : S4 = S ++ [.dK kvs4] := by rw [hS4, hS3', set_app]
        repeat' walk_at "rf"
        show Iv _
        refine ⟨pre ++ [f], W4, kvs4, _, _, _, _, by rw [e1]; simp, rfl, hS4', B4, ⟨more ++ more3 ++ more4, by rw [e6, e4, e2]; simp⟩, fun g hg => ?_⟩
        have hsub : ∀ y ∈ W2, y ∈ W4 := fun y hy => by rw [e6, e4]; simp [hy]
        rcases List.mem_append.mp hg with hg | hg
        · exact ⟨fun z => hsub _ ((e3 g hg).1 z), fun z => hsub _ ((e3 g hg).2 z)⟩
        · rw [List.mem_singleton.mp hg]
          exact ⟨fun z => by rw [e6]; exact List.mem_append.mpr (.inl (e5 z)), e7⟩
      · rintro L S2 ⟨pre, W2, kvs2, z7, z8, z9, z10, e1, rfl, hS2, B2, ⟨more, e2⟩, e3⟩
        rw [List.append_nil] at e1
        subst e1
        have hl2 := nodup_lt B2.nd B2.bd
        repeat' walk_at "rf"
        show ∃ m', m' < _ ∧ Iv _
        have eN : nD (at' + 1) = .int ((at' : Int) + 1) := congrArg D.int (by simp)
        refine ⟨m - 1, by omega, W2, kvs2, at' + 1, _, _, _, _, _, by rw [eN], hS2, B2, by rw [e2, List.length_append]; omega, fun i y hi hy => ?_, by omega, fun h => absurd (by rw [← h]; exact List.mem_of_getElem? B.h0) hqW⟩
        by_cases hia : i < at'
        · have hi2 : i < W.length := by omega
          rw [e2, List.getElem?_append_left hi2] at hy
          exact fun f hf => ⟨fun z => by rw [e2]; exact List.mem_append.mpr (.inl ((hpr i y hia hy f hf).1 z)), fun z => by rw [e2]; exact List.mem_append.mpr (.inl ((hpr i y hia hy f hf).2 z))⟩
        · have hie : i = at' := by omega
          rw [hie, e2, List.getElem?_append_left hlt, hWat] at hy
          cases hy
          exact e3
end
end
end Rf
set_option Elab.async false
set_option linter.all false
set_option maxRecDepth 100000
set_option maxHeartbeats 0
namespace Rf
open PySem PySem.Spec PyProof.Rows L2 TL Rf
theorem row_chain {ts : List Th} {as : List An} {vs : List D} {k p q m i j a b c d : Nat} {w w' : D} (hp : p < ts.length) (hq : q < ts.length) (hi : i < k) (hj : j < k) (h1 : vs[i]? = some (.tup [nD a, nD b, w])) (h2 : vs[j]? = some (.tup [nD c, nD d, w'])) (ha : abt a b p m = true) (hb : abt c d m q = true) : rowV ts as vs k (.tup [nD p, nD q, .tup [.str sC, nD i, nD j]]) = true := by
  have g1 : vs.getD i .non = .tup [nD a, nD b, w] := gD h1
  have g2 : vs.getD j .non = .tup [nD c, nD d, w'] := gD h2
  show (isP (nD p) ts.length && (isP (nD q) ts.length && whyB ts as vs k (ix (nD p)) (ix (nD q)) (.str sC) [nD i, nD j])) = true
  rw [isP_n hp, isP_n hq, ix_n, ix_n]
  show (true && (true && chnB vs k p q [nD i, nD j])) = true
  show (isP (nD i) k && (isP (nD j) k && chB (rp (vs.getD (ix (nD i)) .non)) (rp (vs.getD (ix (nD j)) .non)) p q)) = true
  rw [isP_n hi, isP_n hj, ix_n, ix_n, g1, g2]
  show chB (ix (nD a), ix (nD b)) (ix (nD c), ix (nD d)) p q = true
  rw [ix_n, ix_n, ix_n, ix_n]
  exact chB_of (m := m) (by unfold midB; rw [ha, hb]; rfl)
theorem isP_le {d : D} {k k' : Nat} (h : isP d k = true) (hk : k ≤ k') : isP d k' = true := by
  obtain ⟨j, rfl, hj⟩ := isP_get h
  exact isP_n (by omega)
theorem rowV_le {ts : List Th} {as : List An} {vs : List D} {k k' : Nat} {d : D} (h : rowV ts as vs k d = true) (hk : k ≤ k') : rowV ts as vs k' d = true := by
  unfold rowV at h ⊢
  split at h
  · rename_i a b hh t
    simp only [Bool.and_eq_true] at h ⊢
    refine ⟨h.1, h.2.1, ?_⟩
    have h3 := h.2.2
    unfold whyB at h3 ⊢
    by_cases c1 : hs hh sA = true
    · rw [if_pos c1] at h3 ⊢; exact h3
    · rw [if_neg c1] at h3 ⊢
      by_cases c2 : hs hh sP = true
      · rw [if_pos c2] at h3 ⊢
        rcases t with _ | ⟨d, _ | ⟨e, _ | ⟨f, t⟩⟩⟩ <;> first | (cases h3; done) | skip
        unfold prtB at h3 ⊢
        simp only [Bool.and_eq_true] at h3 ⊢
        exact ⟨isP_le h3.1 hk, h3.2⟩
      · rw [if_neg c2] at h3 ⊢
        rcases t with _ | ⟨d, _ | ⟨e, _ | ⟨f, t⟩⟩⟩ <;> first | (simp [chnB] at h3; done) | skip
        unfold chnB at h3 ⊢
        simp only [Bool.and_eq_true] at h3 ⊢
        exact ⟨h3.1, isP_le h3.2.1 hk, isP_le h3.2.2.1 hk, h3.2.2.2⟩
  · cases h
theorem abt_tr {a b p m : Nat} (h : abt a b p m = true) : m = a ∨ m = b := by
  unfold abt at h
  simp only [Bool.or_eq_true, Bool.and_eq_true, decide_eq_true_eq] at h
  omega
theorem at0 {S G : Sto} {X Y : O} : (S ++ X :: Y :: G)[S.length]? = some X := by simp
theorem at1 {S G : Sto} {X Y : O} : (S ++ X :: Y :: G)[S.length + 1]? = some Y := by
  rw [List.getElem?_append_right (by omega), show S.length + 1 - S.length = 1 by omega]; rfl
theorem set0 {S G : Sto} {X Y Z : O} : (S ++ X :: Y :: G).set S.length Z = S ++ Z :: Y :: G := by
  rw [List.set_append_right _ _ (Nat.le_refl _), Nat.sub_self]; rfl
theorem set1 {S G : Sto} {X Y Z : O} : (S ++ X :: Y :: G).set (S.length + 1) Z = S ++ X :: Z :: G := by
  rw [List.set_append_right _ _ (by omega), show S.length + 1 - S.length = 1 by omega]; rfl
section
variable {S : Sto} {o l a r e : Nat} {ts : List Th} {as as' : List An} {rs : List Nat} {es : List Ed}
section
local macro_rules | `(tactic| walk_at "rf") => `(tactic| first | ((with_reducible refine anG ?_); ((with_reducible refine And.intro ?_ ?_); exact Nat.le_of_ble_eq_true rfl)) | fail)
local macro_rules | `(tactic| walk_at "rf") => `(tactic| first | ((with_reducible refine anG ?_); ((with_reducible refine And.intro ?_ ?_); exact rfl)) | ((with_reducible refine anG ?_); ((with_reducible refine And.intro ?_ ?_); (· with_reducible assumption))) | fail)
local macro_rules | `(tactic| walk_at "rf") => `(tactic| first | ((with_reducible refine anG ?_); ((with_reducible apply r_isF); (· first | with_reducible assumption | exact rfl))) | ((with_reducible refine anG ?_); ((with_reducible refine r_dec (fun ht => ?_) (fun ht => ?_)) <;> first | (exfalso; omega) | skip)) | fail)
local macro_rules | `(tactic| walk_at "rf") => `(tactic| first | ((with_reducible refine exG ?_); ((with_reducible apply Exists.intro); (fail_if_success (with_reducible refine g_og ?_ ?_)); (fail_if_success (with_reducible refine repG ?_)); (repeat (with_reducible apply Exists.intro)); refine And.intro rfl ?_)) | ((with_reducible refine anG ?_); ((with_reducible apply r_isT); (· first | with_reducible assumption | exact rfl))) | fail)
local macro_rules | `(tactic| walk_at "rf") => `(tactic| first | ((with_reducible refine wsG ?_); (with_reducible refine Ws.imp ?_)) | ((with_reducible refine exG ?_); (with_reducible refine g_op ?_)) | fail)
local macro_rules | `(tactic| walk_at "rf") => `(tactic| first | ((with_reducible refine lsG ?_); (intro L' hL'; (try simp only [List.set_cons_zero, List.set_cons_succ] at hL'); subst hL')) | ((with_reducible refine wpG ?_); (with_reducible refine Wp.imp ?_)) | fail)
local macro_rules | `(tactic| walk_at "rf") => `(tactic| first | ((with_reducible refine ntG ?_); (intro n hn; subst hn)) | (with_reducible refine stopL_in ?_) | fail)
local macro_rules | `(tactic| walk_at "rf") => `(tactic| first | ((with_reducible apply g_dr1); (· with_reducible exact at0)) | ((with_reducible apply g_drX); (· with_reducible exact at0); (· with_reducible assumption); (· exact rfl)) | fail)
local macro_rules | `(tactic| walk_at "rf") => `(tactic| first | (with_reducible refine And.intro at0 ?_) | ((with_reducible apply Exists.intro); (with_reducible refine And.intro ?_ ?_); (· with_reducible exact at0)) | fail)
local macro_rules | `(tactic| walk_at "rf") => `(tactic| first | ((with_reducible apply g_ins); (· with_reducible assumption)) | ((with_reducible refine stG ?_); (intro S' hS'; (try rw [set0] at hS'); subst hS')) | fail)
theorem steps_between_ok (A : SmA S o l a r e ts as' rs es) (I : Sv ts as rs es []) (hn : ts.length < 20000) (hel : es.length < 20000) (hbn : (ts.length + 1) * (es.length + 2) < 40000) {p q : Nat} (hp : p < ts.length) (hq : q < ts.length) (h1 : One rs p q) :
    @wp noXP _ (c_Sameness_steps_between [.obj o, nD p, nD q] S) fun d S' => Iv (∃ (vs : List D) (G : Sto), d = .tup vs ∧ S' = S ++ G ∧ (∀ k, k < vs.length → rowB ts as vs k = true) ∧ vs.length < 50000 ∧ ((p = q ∧ vs = []) ∨ p ≠ q ∧ ∃ (x y : Nat) (w : D), vs ≠ [] ∧ vs[vs.length - 1]? = some (.tup [nD x, nD y, w]) ∧ abt x y p q = true)) := by
  have big : 100000 < sizeLine := by decide
  apply u_Sameness_steps_between
  repeat' walk_at "rf"
  have eS : S ++ [O.lst []] ++ [O.dN []] = S ++ (.lst [] :: .dN [] :: []) := by simp
  have eN : (S ++ [O.lst []]).length = S.length + 1 := by simp
  rw [eS, eN]
  have hw := way_ok (A.pre (.lst [] :: .dN [] :: [])) hn I.c.bd I.c.sp hp hq h1
  have hi0 := (A.pre (.lst [] :: .dN [] :: [])).i
  repeat' walk_at "rf"
  refine hw.mono ?_
  rintro _ _ ⟨way, G, rfl, rfl, hpth, hwl, hpq⟩
  rw [show (S ++ (O.lst [] :: O.dN [] :: []) ++ G) = S ++ (.lst [] :: .dN [] :: G) by simp]
  repeat' walk_at "rf"
  unfold stopL
  have hel' : e < S.length := (List.getElem?_eq_some_iff.mp A.e).1
  by_cases hpe : p = q
  · have h0 := hpq hpe
    subst h0
    apply f_nil
    · exact rfl
    repeat' walk_at "rf"
    show Iv _
    exact ⟨[], _, rfl, rfl, fun k hk => absurd hk (Nat.not_lt_zero _), by simp, .inl ⟨hpe, rfl⟩⟩
  refine wps_ea (f := fun x : Ed × Nat => D.tup [x.1.d, nD x.2]) (fun bs L S2 => Iv (∃ (cur : Nat) (vs : List D) (kvs : DctN) (z5 z6 z7 z8 : LV), L = [.v (.obj o), .v (nD p), .v (nD q), .v (.obj S.length), .v (.obj (S.length + 1)), z5, z6, z7, z8] ∧ S2 = S ++ .lst vs :: .dN kvs :: G ∧ Pth es cur bs q ∧ Rws ts as vs kvs ∧ cur < ts.length ∧ vs.length + bs.length * (es.length + 2) ≤ way.length * (es.length + 2) ∧ kvs.length + bs.length * (es.length + 2) ≤ way.length * (es.length + 2) ∧
    ((z5 = .v .non ∧ cur = p ∧ vs = []) ∨ ∃ (j x y : Nat) (w : D), z5 = .v (nD j) ∧ vs[j]? = some (.tup [nD x, nD y, w]) ∧ abt x y p cur = true))) ?_ ?_ way _ _ ⟨p, [], [], _, _, _, _, rfl, rfl, hpth, ⟨fun k hk => absurd hk (Nat.not_lt_zero _), fun q d h => by cases h⟩, hp, by simp, by simp, .inl ⟨rfl, rfl, rfl⟩⟩
  · rintro ⟨f, h⟩ bs L S2 ⟨cur, vs, kvs, z5, z6, z7, z8, rfl, hS2, ⟨hf, hab, hpt⟩, hR2, hcn, hvz, hkz, hlast⟩
    have hwz : way.length * (es.length + 2) ≤ 40000 := by
      have := Nat.mul_le_mul_right (es.length + 2) (show way.length ≤ ts.length + 1 by omega)
      omega
    have hmul : (bs.length + 1) * (es.length + 2) = bs.length * (es.length + 2) + (es.length + 2) := by rw [Nat.add_mul, Nat.one_mul]
    rw [List.length_cons, hmul] at hvz hkz
    have A2 := A.pre (.lst vs :: .dN kvs :: G)
    rw [← hS2] at A2
    obtain ⟨k, hk⟩ := List.getElem?_of_mem hf
    obtain ⟨fa, fb⟩ := I.c.bd f hf
    have hst := steps_to_ok (R := S.length) (N := S.length + 1) (vs := vs) (kvs := kvs) A2 I.c.wy I.c.bd I.lk hel fa fb ((I.c.wy k f hk).mono (Nat.le_of_lt (List.getElem?_eq_some_iff.mp hk).1)) (by rw [hS2]; exact at0) (by rw [hS2]; exact at1) (by omega) hR2 (by omega) (by omega)
    have hi2 := A2.i
    have hhn : h < ts.length := by
      rcases abt_tr hab with z | z <;> simp [abt] at hab <;> omega
    refine tgX _ rfl fun L' hL' => ?_
    subst hL'
    repeat' walk_at "rf"
    refine hst.mono ?_
    rintro _ _ ⟨vs', kvs', j, w, rfl, rfl, hj, hR3, ⟨more, e2, e3⟩, _, hkl⟩
    have hS3 : (S2.set S.length (.lst vs')).set (S.length + 1) (.dN kvs') = S ++ .lst vs' :: .dN kvs' :: G := by rw [hS2, set0, set1]
    rw [hS3]
    have hvl : vs'.length = vs.length + more.length := by rw [e2, List.length_append]
    rcases hlast with ⟨rfl, rfl, rfl⟩ | ⟨j0, x, y, w0, rfl, hj0, hab0⟩
    · repeat' walk_at "rf"
      show Iv _
      exact ⟨h, vs', kvs', _, _, _, _, rfl, rfl, hpt, hR3, hhn, by omega, by omega, .inr ⟨j, f.a, f.b, w, rfl, hj, hab⟩⟩
    · have hz3 : vs'.length < sizeLine := by omega
      have hj1 : vs'[j0]? = some (.tup [nD x, nD y, w0]) := by rw [e2, List.getElem?_append_left (List.getElem?_eq_some_iff.mp hj0).1]; exact hj0
      have hrow : rowV ts as vs' vs'.length (.tup [nD p, nD h, .tup [.str sC, nD j0, nD j]]) = true := row_chain hp hhn (List.getElem?_eq_some_iff.mp hj1).1 (List.getElem?_eq_some_iff.mp hj).1 hj1 hj hab0 hab
      have eL : (((vs' ++ [D.tup [nD p, nD h, .tup [.str [99, 104, 97, 105, 110], nD j0, nD j]]]).length : Nat) : Int) - 1 = (vs'.length : Int) := by simp
      have hl9 : (vs' ++ [D.tup [nD p, nD h, .tup [.str [99, 104, 97, 105, 110], nD j0, nD j]]]).length ≤ sizeLine := by rw [List.length_append, List.length_singleton]; omega
      repeat' walk_at "rf"
      rw [eL]
      show Iv _
      refine ⟨h, vs' ++ [.tup [nD p, nD h, .tup [.str [99, 104, 97, 105, 110], nD j0, nD j]]], kvs', _, _, _, _, rfl, rfl, hpt, hR3.snoc hrow hR3.old, hhn, ?_, by omega, .inr ⟨vs'.length, p, h, _, rfl, by rw [List.getElem?_append_right (Nat.le_refl _), Nat.sub_self]; rfl, abt_self _ _⟩⟩
      rw [List.length_append, List.length_singleton]
      omega
  · rintro L S2 ⟨cur, vs, kvs, z5, z6, z7, z8, rfl, hS2, hpt, hR2, hcn, hvz, hkz, hlast⟩
    subst hS2
    cases hpt
    have hwz : way.length * (es.length + 2) ≤ 40000 := by
      have := Nat.mul_le_mul_right (es.length + 2) (show way.length ≤ ts.length + 1 by omega)
      omega
    rw [List.length_nil, Nat.zero_mul] at hvz
    rcases hlast with ⟨rfl, rfl, rfl⟩ | ⟨j0, x, y, w0, rfl, hj0, hab0⟩
    · repeat' walk_at "rf"
      show Iv _
      exact ⟨[], _, rfl, rfl, fun k hk => absurd hk (Nat.not_lt_zero _), by simp, .inl ⟨rfl, rfl⟩⟩
    · have hj1 := (List.getElem?_eq_some_iff.mp hj0).1
      have hz3 : vs.length < sizeLine := by omega
      have hz4 : vs.length ≤ sizeLine := by omega
      have hcp : oIx (.lst vs) (nD j0) = some (.tup [nD x, nD y, w0]) := atI_some hj0
      have hl9 : (vs ++ [D.tup [nD x, nD y, w0]]).length ≤ sizeLine := by rw [List.length_append, List.length_singleton]; omega
      repeat' walk_at "rf"
      · show Iv _
        have hrow : rowV ts as vs vs.length (.tup [nD x, nD y, w0]) = true := rowV_le (by rw [← rowV_at hj0]; exact hR2.ok j0 hj1) (Nat.le_of_lt hj1)
        refine ⟨vs ++ [.tup [nD x, nD y, w0]], _, rfl, rfl, (hR2.snoc hrow hR2.old).ok, by rw [List.length_append, List.length_singleton]; omega, .inr ⟨hpe, x, y, w0, by simp, ?_, hab0⟩⟩
        rw [List.length_append, List.length_singleton, Nat.add_sub_cancel, List.getElem?_append_right (Nat.le_refl _), Nat.sub_self]
        rfl
      · rename_i ht
        show Iv _
        have hje : j0 = vs.length - 1 := by omega
        exact ⟨vs, _, rfl, rfl, hR2.ok, by omega, .inr ⟨hpe, x, y, w0, fun z => by rw [z] at hj1; exact absurd hj1 (Nat.not_lt_zero _), by rw [← hje]; exact hj0, hab0⟩⟩
end
end
end Rf
set_option Elab.async false
set_option linter.all false
set_option maxRecDepth 100000
set_option maxHeartbeats 0
namespace Rf
open PySem PySem.Spec PyProof.Rows L2 TL Rf
theorem atk {S xs : Sto} {k : Nat} {X : O} (h : xs[k]? = some X) : (S ++ xs)[S.length + k]? = some X := by
  rw [List.getElem?_append_right (by omega), show S.length + k - S.length = k by omega]; exact h
theorem atk0 {S xs : Sto} {X : O} (h : xs[0]? = some X) : (S ++ xs)[S.length]? = some X := atk (k := 0) h
theorem setk {S xs : Sto} {k : Nat} {X : O} : (S ++ xs).set (S.length + k) X = S ++ xs.set k X := by
  rw [List.set_append_right _ _ (by omega), show S.length + k - S.length = k by omega]
theorem setk0 {S xs : Sto} {X : O} : (S ++ xs).set S.length X = S ++ xs.set 0 X := setk (k := 0)
theorem insk {S xs : Sto} {k : Nat} {c : Str} {ns : List Str} {ds : List D} (h : xs[k]? = some (.ins c ns ds)) : insOf (S ++ xs) (.obj (S.length + k)) = some (c, ns, ds) := by
  unfold insOf
  dsimp only
  rw [atk h]
theorem insk0 {S xs : Sto} {c : Str} {ns : List Str} {ds : List D} (h : xs[0]? = some (.ins c ns ds)) : insOf (S ++ xs) (.obj S.length) = some (c, ns, ds) := insk (k := 0) h
theorem appk {S xs ys : Sto} : (S ++ xs) ++ ys = S ++ (xs ++ ys) := List.append_assoc ..
theorem lenk {S xs : Sto} : (S ++ xs).length = S.length + xs.length := List.length_append ..
section
variable {S G : Sto} {o l a r e : Nat} {ts : List Th} {as : List An} {rs : List Nat} {es : List Ed} {β : Type} {oL : List D → Option β} {Q : β → Prop}
theorem drP {n : Nat} {ds : List D} (h : S[n]? = some (.lst ds)) : deref (S ++ G) (.obj n) = .lst ds := by
  show (match (S ++ G)[n]? with | some (.lst ds) => D.lst ds | _ => D.obj n) = _
  rw [at_pre h G]
theorem g_P1 {n : Nat} {ds : List D} (h : S[n]? = some (.lst ds)) (k : ∃ z, oL [.lst ds] = some z ∧ Q z) : ∃ z, oL ([D.obj n].map (deref (S ++ G))) = some z ∧ Q z := by
  rw [List.map_cons, List.map_nil, drP h]; exact k
theorem g_Pi {K : Str → List Str → List D → Prop} {c : Str} {ns : List Str} {ds : List D} (h : insOf S (.obj o) = some (c, ns, ds)) (k : K c ns ds) : ∃ c ns ds, insOf (S ++ G) (.obj o) = some (c, ns, ds) ∧ K c ns ds := ⟨c, ns, ds, insOf_pre h G, k⟩
theorem fP0 (d : D) : fPut "listed" d [] [] = ((["listed"] : List Str), [d]) := rfl
theorem fP1 (d x : D) : fPut "answered" d ["listed"] [x] = ((["listed", "answered"] : List Str), [x, d]) := rfl
theorem fP2 (d x y : D) : fPut "roots" d ["listed", "answered"] [x, y] = ((["listed", "answered", "roots"] : List Str), [x, y, d]) := rfl
theorem fP3 (d x y z : D) : fPut "edges" d ["listed", "answered", "roots"] [x, y, z] = ((["listed", "answered", "roots", "edges"] : List Str), [x, y, z, d]) := rfl
theorem fP4 (d x y z w : D) : fPut "listed" d ["listed", "answered", "roots", "edges"] [x, y, z, w] = ((["listed", "answered", "roots", "edges"] : List Str), [d, y, z, w]) := rfl
theorem fP5 (d x y z w : D) : fPut "answered" d ["listed", "answered", "roots", "edges"] [x, y, z, w] = ((["listed", "answered", "roots", "edges"] : List Str), [x, d, z, w]) := rfl
theorem fP6 (d x y z w : D) : fPut "roots" d ["listed", "answered", "roots", "edges"] [x, y, z, w] = ((["listed", "answered", "roots", "edges"] : List Str), [x, y, d, w]) := rfl
theorem fP7 (d x y z w : D) : fPut "edges" d ["listed", "answered", "roots", "edges"] [x, y, z, w] = ((["listed", "answered", "roots", "edges"] : List Str), [x, y, z, d]) := rfl
theorem q_flT {S : Sto} {L : Ls} {cs : List Str} {f : Str} {a b : EM} {PS : Fl → Ls → Sto → Prop} (h : wp (b L S) fun d S1 => wp (a L S1) fun o S2 => ∃ n c ns ds, o = .obj n ∧ S2[n]? = some (.ins c ns ds) ∧ c ∈ cs ∧ ns.length < 900 ∧ ∀ S', S2.set n (.ins c (fPut f d ns ds).1 (fPut f d ns ds).2) = S' → PS .nx L S') : wps (sFl cs f a b L S) PS := q_fl (h.mono fun _ _ h => h.mono fun _ _ h => match h with | ⟨n, c, ns, ds, h1, h2, h3, h4, h5⟩ => ⟨n, c, ns, ds, h1, h2, h3, h4, h5 _ rfl⟩)
instance (priority := 3000) {S : Sto} {L : Ls} {cs : List Str} {f : Str} {a b : EM} {PS : Fl → Ls → Sto → Prop} : Ws (sFl cs f a b L S) PS (wp (b L S) fun d S1 => wp (a L S1) fun o S2 => ∃ n c ns ds, o = .obj n ∧ S2[n]? = some (.ins c ns ds) ∧ c ∈ cs ∧ ns.length < 900 ∧ ∀ S', S2.set n (.ins c (fPut f d ns ds).1 (fPut f d ns ds).2) = S' → PS .nx L S') := ⟨q_flT⟩
section
local macro_rules | `(tactic| walk_at "rf") => `(tactic| first | (with_reducible exact rfl) | fail)
local macro_rules | `(tactic| walk_at "rf") => `(tactic| first | ((with_reducible refine anG ?_); ((with_reducible refine And.intro ?_ ?_); exact rfl)) | ((with_reducible refine anG ?_); ((with_reducible refine And.intro ?_ ?_); exact Nat.le_of_ble_eq_true rfl)) | fail)
local macro_rules | `(tactic| walk_at "rf") => `(tactic| first | ((with_reducible refine wsG ?_); ((with_reducible apply f_nil); (· exact rfl))) | ((with_reducible refine exG ?_); ((with_reducible apply Exists.intro); (fail_if_success (with_reducible refine g_og ?_ ?_)); (fail_if_success (with_reducible refine repG ?_)); (repeat (with_reducible apply Exists.intro)); refine And.intro rfl ?_)) | fail)
local macro_rules | `(tactic| walk_at "rf") => `(tactic| first | ((with_reducible refine wpG ?_); (with_reducible refine Wp.imp ?_)) | ((with_reducible refine wsG ?_); (with_reducible refine Ws.imp ?_)) | fail)
local macro_rules | `(tactic| walk_at "rf") => `(tactic| first | (with_reducible refine And.intro (List.mem_singleton.mpr rfl) ?_) | (with_reducible refine And.intro (atk0 rfl) ?_) | fail)
local macro_rules | `(tactic| walk_at "rf") => `(tactic| first | ((with_reducible refine stG ?_); (intro S' hS'; (simp only [appk, lenk, setk, setk0, List.cons_append, List.nil_append, List.set_cons_zero, List.set_cons_succ, List.length_cons, List.length_nil, Nat.zero_add, Nat.reduceAdd, fP0, fP1, fP2, fP3, fP4, fP5, fP6, fP7] at hS'); subst hS')) | ((with_reducible refine ntG ?_); (intro n hn; (simp only [lenk, List.length_cons, List.length_nil, Nat.zero_add, Nat.reduceAdd] at hn); subst hn)) | fail)
theorem init_ok (n : Nat) : @wp noXP _ (c_Sameness___init__ (n + 1) [.obj S.length, .tup [], .tup []] (S ++ [.ins "Sameness" [] []])) fun d S' => d = .non ∧ S' = S ++ [.ins "Sameness" ["listed", "answered", "roots", "edges"] [.obj (S.length + 1), .obj (S.length + 2), .obj (S.length + 3), .obj (S.length + 4)], .lst [], .lst [], .lst [], .lst []] := by
  apply u_Sameness___init__
  repeat' walk_at "rf"
  all_goals
    simp only [List.length_set, lenk, setk0, List.length_cons, List.length_nil, Nat.zero_add, Nat.reduceAdd, List.set_cons_zero]
theorem wp_dD {c : Str} {F : Fn} {dds : List D} {ma : Ls → Sto → R (List D)} {L : Ls} {P : D → Sto → Prop} (h : wp (eMk c (fun as S => F (as ++ dds) S) ma L S) P) : wp (eMkD c F dds ma L S) P := h
theorem g_ini {X P : D → Sto → Prop} {n a : Nat} {S0 : Sto} (h : @wp noXP _ (c_Sameness___init__ (n + 1) [.obj a, .tup [], .tup []] S0) X) (k : ∀ d S', X d S' → P d S') : @wp noXP _ (g_Sameness___init__ (n + 1) 0 ([D.obj a] ++ List.replicate 2 (D.tup [])) S0) P := h.mono k
end
section
local macro_rules | `(tactic| walk_at "rf") => `(tactic| first | (with_reducible exact rfl) | fail)
local macro_rules | `(tactic| walk_at "rf") => `(tactic| first | ((with_reducible refine anG ?_); ((with_reducible refine And.intro ?_ ?_); exact rfl)) | ((with_reducible refine anG ?_); ((with_reducible refine And.intro ?_ ?_); exact Nat.le_of_ble_eq_true rfl)) | fail)
local macro_rules | `(tactic| walk_at "rf") => `(tactic| first | ((with_reducible refine wsG ?_); (with_reducible refine Ws.imp ?_)) | ((with_reducible refine exG ?_); ((with_reducible apply Exists.intro); (fail_if_success (with_reducible refine g_og ?_ ?_)); (fail_if_success (with_reducible refine repG ?_)); (repeat (with_reducible apply Exists.intro)); refine And.intro rfl ?_)) | fail)
local macro_rules | `(tactic| walk_at "rf") => `(tactic| first | ((with_reducible refine lsG ?_); (intro L' hL'; (try simp only [List.set_cons_zero, List.set_cons_succ] at hL'); subst hL')) | ((with_reducible refine wpG ?_); (with_reducible refine Wp.imp ?_)) | fail)
local macro_rules | `(tactic| walk_at "rf") => `(tactic| first | (with_reducible refine wp_dD ?_) | (with_reducible refine g_ini (by assumption) ?_) | fail)
local macro_rules | `(tactic| walk_at "rf") => `(tactic| first | (with_reducible refine And.intro (List.mem_singleton.mpr rfl) ?_) | (with_reducible refine And.intro (atk0 rfl) ?_) | fail)
local macro_rules | `(tactic| walk_at "rf") => `(tactic| first | ((with_reducible apply g_P1); (· with_reducible assumption)) | ((with_reducible apply g_Pi); (· with_reducible assumption)) | fail)
local macro_rules | `(tactic| walk_at "rf") => `(tactic| first | ((with_reducible refine stG ?_); (intro S' hS'; (simp only [appk, lenk, setk, setk0, List.cons_append, List.nil_append, List.set_cons_zero, List.set_cons_succ, List.length_cons, List.length_nil, Nat.zero_add, Nat.reduceAdd, fP0, fP1, fP2, fP3, fP4, fP5, fP6, fP7] at hS'); subst hS')) | ((with_reducible refine ntG ?_); (intro n hn; (simp only [lenk, List.length_cons, List.length_nil, Nat.zero_add, Nat.reduceAdd] at hn); subst hn)) | fail)
theorem twin_ok (A : SmA S o l a r e ts as rs es) (n : Nat) : @wp noXP _ (c_Sameness_twin (n + 2) [.obj o] S) fun d S' => d = .obj S.length ∧ S' = S ++ [.ins "Sameness" ["listed", "answered", "roots", "edges"] [.obj (S.length + 5), .obj (S.length + 6), .obj (S.length + 7), .obj (S.length + 8)], .lst [], .lst [], .lst [], .lst [], .lst (ts.map Th.d), .lst (as.map An.d), .lst (rs.map nD), .lst (es.map Ed.d)] := by
  obtain ⟨hi, hl, ha, hr, he⟩ := id A
  have hin := init_ok (S := S) n
  apply u_Sameness_twin
  repeat' walk_at "rf"
  rintro d S' ⟨rfl, rfl⟩
  refine ⟨rfl, ?_⟩
  repeat' walk_at "rf"
end
end
end Rf
set_option Elab.async false
set_option linter.all false
set_option maxRecDepth 100000
set_option maxHeartbeats 0
namespace Rf
open PySem PySem.Spec PyProof.Rows L2 TL Rf
section
variable {S : Sto} {o l a r e : Nat} {ts : List Th} {as : List An} {rs : List Nat} {es : List Ed}
theorem WyOk.more {k : Nat} {f : Ed} {x : An} (h : WyOk ts as es k f) : WyOk ts (as ++ [x]) es k f := by
  unfold WyOk at h ⊢
  split at h
  · obtain ⟨y, h1, h2⟩ := h
    exact ⟨y, by rw [List.getElem?_append_left (List.getElem?_eq_some_iff.mp h1).1]; exact h1, h2⟩
  · exact h
theorem Sv.more (I : Sv ts as rs es []) {p q : Nat} (hp : p < ts.length) (hq : q < ts.length) : Sv ts (as ++ [⟨p, q, 1⟩]) rs es [⟨p, q, .asked as.length⟩] where
  rk := I.rk
  lk := I.lk
  c := {
    bd := I.c.bd
    wb := fun f hf => by cases List.mem_singleton.mp hf; exact ⟨hp, hq⟩
    one := I.c.one
    wy := fun k f hk => (I.c.wy k f hk).more
    ww := fun f hf => by
      cases List.mem_singleton.mp hf
      exact ⟨⟨p, q, 1⟩, by simp, rfl, rfl, rfl⟩
    cl := fun f hf i x y h1 h2 => by
      rcases I.c.cl f hf i x y h1 h2 with h | ⟨g, hg, _⟩
      · exact .inl h
      · cases hg
    ye := fun x hx ht => by
      rcases List.mem_append.mp hx with h | h
      · rcases I.c.ye x h ht with h | ⟨g, hg, _⟩
        · exact .inl h
        · cases hg
      · cases List.mem_singleton.mp h
        exact .inr ⟨_, .head _, rfl, rfl⟩
    sp := I.c.sp }
theorem Sv.zero (I : Sv ts as rs es []) {x : An} (hx : x.t = 0) : Sv ts (as ++ [x]) rs es [] where
  rk := I.rk
  lk := I.lk
  c := {
    bd := I.c.bd
    wb := I.c.wb
    one := I.c.one
    wy := fun k f hk => (I.c.wy k f hk).more
    ww := fun f hf => by cases hf
    cl := I.c.cl
    ye := fun y hy ht => by
      rcases List.mem_append.mp hy with h | h
      · exact I.c.ye y h ht
      · cases List.mem_singleton.mp h
        omega
    sp := I.c.sp }
theorem abt_flip (a b c d : Nat) : abt a b c d = abt c d a b := by
  rw [Bool.eq_iff_iff]
  simp only [abt, Bool.or_eq_true, Bool.and_eq_true, decide_eq_true_eq, beq_iff_eq]
  omega
/-- what a trial tells -/
def Trl (ts : List Th) (as : List An) (rs : List Nat) (es : List Ed) (st : D) : Prop :=
  (st = .non ∧ Sv ts as rs es [] ∧ No as (One rs)) ∨ (∃ vs, st = .tup vs ∧ (∀ k, k < vs.length → rowB ts as vs k = true) ∧ vs.length < 50000 ∧ vs ≠ [] ∧ ¬ Ag ts as ∧ ∃ (x y : Nat) (w : D), vs[vs.length - 1]? = some (.tup [nD x, nD y, w]) ∧ (unlB ts x y = true ∨ ∃ b ∈ as, b.t = 0 ∧ abt b.a b.b x y = true))
section
local macro_rules | `(tactic| walk_at "rf") => `(tactic| first | ((with_reducible refine anG ?_); ((with_reducible refine And.intro ?_ ?_); (· ((with_reducible refine ltG ?_); (simp only [List.length_map, List.length_append, List.length_replicate, List.length_cons, List.length_nil]; omega))))) | fail)
local macro_rules | `(tactic| walk_at "rf") => `(tactic| first | ((with_reducible refine anG ?_); ((with_reducible refine And.intro ?_ ?_); (· with_reducible assumption))) | ((with_reducible refine anG ?_); ((with_reducible refine And.intro ?_ ?_); exact Nat.le_of_ble_eq_true rfl)) | fail)
local macro_rules | `(tactic| walk_at "rf") => `(tactic| first | ((with_reducible refine anG ?_); ((with_reducible apply r_isF); (· first | with_reducible assumption | exact rfl))) | ((with_reducible refine anG ?_); ((with_reducible refine And.intro ?_ ?_); exact rfl)) | fail)
local macro_rules | `(tactic| walk_at "rf") => `(tactic| first | ((with_reducible refine exG ?_); ((with_reducible apply Exists.intro); (fail_if_success (with_reducible refine g_og ?_ ?_)); (fail_if_success (with_reducible refine repG ?_)); (repeat (with_reducible apply Exists.intro)); refine And.intro rfl ?_)) | ((with_reducible refine anG ?_); ((with_reducible apply r_isT); (· first | with_reducible assumption | exact rfl))) | fail)
local macro_rules | `(tactic| walk_at "rf") => `(tactic| first | ((with_reducible refine ntG ?_); (intro n hn; (try simp only [List.length_cons, List.length_nil, Nat.zero_add, Nat.reduceAdd] at hn); subst hn)) | ((with_reducible refine exG ?_); (with_reducible refine g_op ?_)) | fail)
local macro_rules | `(tactic| walk_at "rf") => `(tactic| first | ((with_reducible refine wsG ?_); (with_reducible refine Ws.imp ?_)) | ((with_reducible refine stG ?_); (intro S' hS'; (try simp only [List.cons_append, List.nil_append, List.set_cons_zero, List.set_cons_succ] at hS'); subst hS')) | fail)
local macro_rules | `(tactic| walk_at "rf") => `(tactic| first | ((with_reducible refine lsG ?_); (intro L' hL'; (try simp only [List.set_cons_zero, List.set_cons_succ] at hL'); subst hL')) | ((with_reducible refine wpG ?_); (with_reducible refine Wp.imp ?_)) | fail)
local macro_rules | `(tactic| walk_at "rf") => `(tactic| first | ((with_reducible apply Exists.intro); (with_reducible refine And.intro ?_ ?_); (· with_reducible assumption)) | ((with_reducible apply g_dr1X); (· with_reducible assumption); (· with_reducible assumption)) | fail)
local macro_rules | `(tactic| walk_at "rf") => `(tactic| first | ((with_reducible apply g_ins); (· with_reducible assumption)) | (with_reducible refine And.intro (List.mem_singleton.mpr rfl) ?_) | fail)
theorem trial_ok (A : SmA S o l a r e ts as rs es) (I : Sv ts as rs es []) (hNo : No as (One rs)) (hts : ∀ t ∈ ts, t.ok ts.length) {P : Nat} (hP : ∀ i, (thg ts i).pts.length ≤ P) (hB : (rs.sum + es.length + 1) * (P + 1) ≤ 10 ^ 5) (hn : ts.length < 20000) (hbn : (ts.length + 1) * (rs.sum + es.length + 2) < 40000) (hba : ∀ x ∈ as, x.a < ts.length ∧ x.b < ts.length) (hz : as.length < 9000) {p q : Nat} (hp : p < ts.length) (hq : q < ts.length) (n : Nat) :
    @wp noXP _ (c_Sameness_trial (n + 3) [.obj o, nD p, nD q] S) fun d S' => Iv (∃ rs' es' st G, d = .tup [.obj S.length, st] ∧ S' = S ++ G ∧ SmA S' S.length (S.length + 5) (S.length + 6) (S.length + 7) (S.length + 8) ts (as ++ [⟨p, q, 1⟩]) rs' es' ∧ es'.length + rs'.sum ≤ rs.sum + es.length ∧ Trl ts (as ++ [⟨p, q, 1⟩]) rs' es' st) := by
  have big : 100000 < sizeLine := by decide
  have htw := twin_ok A n
  have hi := A.i
  apply u_Sameness_trial
  repeat' walk_at "rf"
  refine htw.mono ?_
  rintro _ S1 ⟨rfl, hS1⟩
  have A1 : SmA S1 o l a r e ts as rs es := by rw [hS1]; exact A.pre _
  have B1 : SmA S1 S.length (S.length + 5) (S.length + 6) (S.length + 7) (S.length + 8) ts as rs es := by
    rw [hS1]
    exact ⟨insk0 rfl, atk rfl, atk rfl, atk rfl, atk rfl⟩
  have hi1 := A1.i
  have ha1 := A1.a
  have hj1 := B1.i
  have hlen : bLen [.lst (as.map An.d)] = some (nD as.length) := by
    show some (D.int (as.map An.d).length) = _
    rw [List.length_map]
  repeat' walk_at "rf"
  have hun := unite_ok B1 ⟨by omega, by omega, by omega, by omega, by omega, by omega⟩ hts hP hB (I.more hp hq)
  refine hun.mono ?_
  rintro d S2 ⟨rs', es', hS2, B2, hle, hd⟩
  have hS3 : ∃ G, S2.set (S.length + 6) (.lst ((as ++ [(⟨p, q, 1⟩ : An)]).map An.d)) = S ++ G := by
    rw [hS2, hS1]
    rw [setk, setk, setk]
    exact ⟨_, rfl⟩
  have B3 := B2.setA ⟨by omega, by omega, by omega, by omega, by omega, by omega⟩ (as ++ [(⟨p, q, 1⟩ : An)])
  have hap : (as.map An.d) ++ [D.tup [nD p, nD q, .int 1]] = (as ++ [(⟨p, q, 1⟩ : An)]).map An.d := by rw [List.map_append]; rfl
  have hj2 := B2.i
  have ha2 := B2.a
  have hes : es'.length < 20000 := by
    have hm2 : 1 * (rs.sum + es.length + 2) ≤ (ts.length + 1) * (rs.sum + es.length + 2) := Nat.mul_le_mul_right _ (by omega)
    have hm3 : (rs.sum + es.length + 1) * 1 ≤ (rs.sum + es.length + 1) * (P + 1) := Nat.mul_le_mul_left _ (by omega)
    have hm4 : 0 < ts.length := by omega
    have hm5 : 2 * (rs.sum + es.length + 2) ≤ (ts.length + 1) * (rs.sum + es.length + 2) := Nat.mul_le_mul_right _ (by omega)
    omega
  rcases hd with ⟨rfl, J⟩ | ⟨x, wt, rfl, J, hun2⟩
  · repeat' walk_at "rf"
    rw [hap]
    generalize S2.set (S.length + 6) (.lst ((as ++ [(⟨p, q, 1⟩ : An)]).map An.d)) = S3 at hS3 B3 ⊢
    obtain ⟨G, hG⟩ := hS3
    have hj3 := B3.i
    repeat' walk_at "rf"
    have hb1 : ∀ x ∈ as ++ [(⟨p, q, 1⟩ : An)], x.a < ts.length ∧ x.b < ts.length := fun x hx => by
      rcases List.mem_append.mp hx with h | h
      · exact hba x h
      · cases List.mem_singleton.mp h; exact ⟨hp, hq⟩
    have hbr := broken_ok B3 J.rk hb1 (by rw [List.length_append]; exact Nat.lt_of_lt_of_le (Nat.add_lt_add_right hz 1) (by decide))
    refine hbr.mono ?_
    rintro _ S4 ⟨h4, ⟨rfl, hno⟩ | ⟨x, hx, hxt, hone, rfl⟩⟩ <;> rw [h4]
    · repeat' walk_at "rf"
      show Iv _
      exact ⟨rs', es', .non, G, rfl, hG, B3, hle, .inl ⟨rfl, J, hno⟩⟩
    · repeat' walk_at "rf"
      have hxa : x ∈ as := by
        rcases List.mem_append.mp hx with h | h
        · exact h
        · cases List.mem_singleton.mp h; cases hxt
      have hne : x.a ≠ x.b := fun h => hNo x hxa hxt (by rw [h]; rfl)
      have hm : (ts.length + 1) * (es'.length + 2) ≤ (ts.length + 1) * (rs.sum + es.length + 2) := Nat.mul_le_mul_left _ (by omega)
      have hm2 : 1 * (es'.length + 2) ≤ (ts.length + 1) * (es'.length + 2) := Nat.mul_le_mul_right _ (by omega)
      have hsb := steps_between_ok B3 J hn (by omega) (by omega) (hb1 x hx).1 (hb1 x hx).2 hone
      refine hsb.mono ?_
      rintro _ S5 ⟨vs, G5, rfl, h5, hrow, hvz, ⟨h, _⟩ | ⟨_, u, v, w, hv0, hvl, hab⟩⟩
      · exact absurd h hne
      repeat' walk_at "rf"
      show Iv _
      refine ⟨rs', es', .tup vs, G ++ G5, rfl, by rw [h5, hG, List.append_assoc], by rw [h5]; exact B3.pre G5, hle, .inr ⟨vs, rfl, hrow, hvz, hv0, fun h => ?_, u, v, w, hvl, .inr ⟨x, hx, hxt, by rw [abt_flip]; exact hab⟩⟩⟩
      exact (J.ag.mp h) x hx hxt hone
  · repeat' walk_at "rf"
    rw [hap]
    generalize S2.set (S.length + 6) (.lst ((as ++ [(⟨p, q, 1⟩ : An)]).map An.d)) = S3 at hS3 B3 ⊢
    obtain ⟨G, hG⟩ := hS3
    have B4 := B3.pre [.lst [], .dN []]
    have B5 := B3.pre [.lst []]
    have hj5 := B5.i
    repeat' walk_at "rf"
    have e1 : S3 ++ [O.lst []] ++ [O.dN []] = S3 ++ .lst [] :: .dN [] :: [] := by simp
    have e2 : (S3 ++ [O.lst []]).length = S3.length + 1 := by simp
    rw [e1, e2]
    have hel : S.length + 8 < S3.length := (List.getElem?_eq_some_iff.mp B3.e).1
    have hxe : x ∉ es' := fun h => by rw [J.lk x h] at hun2; cases hun2
    have hst := steps_to_ok (R := S3.length) (N := S3.length + 1) (vs := []) (kvs := []) B4 J.c.wy J.c.bd J.lk hes (J.c.wb x (.head _)).1 (J.c.wb x (.head _)).2 (J.c.ww x (.head _)) at0 at1 (by omega) ⟨fun k hk => absurd hk (Nat.not_lt_zero _), fun q d h => by cases h⟩ (by decide) (by decide)
    refine hst.mono ?_
    rintro _ S5 ⟨vs, kvs, j, w, h5, rfl, hj, hR5, ⟨more, e3, e4⟩, hlast, hkl⟩
    have h5' : S5 = S3 ++ .lst vs :: .dN kvs :: [] := by rw [h5, set0, set1]
    have hat : S5[S3.length]? = some (.lst vs) := by rw [h5']; exact at0
    have hjl := hlast hxe rfl
    have htp : bTuple [.lst vs] = some (.tup vs) := rfl
    have hvz : vs.length < 50000 := by
      rw [e3, List.nil_append]
      omega
    repeat' walk_at "rf"
    show Iv _
    refine ⟨rs', es', .tup vs, G ++ [.lst vs, .dN kvs], rfl, by rw [h5', hG, List.append_assoc], by rw [h5']; exact B3.pre _, hle, .inr ⟨vs, rfl, hR5.ok, hvz, fun h => (by rw [h] at hj; cases hj), fun ⟨M, h1, h2, _⟩ => J.none hun2 ⟨M, h1, h2⟩, x.a, x.b, w, by rw [← hjl]; exact hj, .inl hun2⟩⟩
end
end
end Rf
set_option Elab.async false
set_option linter.all false
set_option maxRecDepth 100000
set_option maxHeartbeats 0
namespace Rf
open PySem PySem.Spec PyProof.Rows L2 TL Rf
section
variable {S : Sto} {o l a r e : Nat} {ts : List Th} {as : List An} {rs : List Nat} {es : List Ed}
section
local macro_rules | `(tactic| walk_at "rf") => `(tactic| first | ((with_reducible refine anG ?_); ((with_reducible refine And.intro ?_ ?_); exact Nat.le_of_ble_eq_true rfl)) | (with_reducible exact rfl) | fail)
local macro_rules | `(tactic| walk_at "rf") => `(tactic| first | ((with_reducible refine anG ?_); ((with_reducible refine And.intro ?_ ?_); exact rfl)) | ((with_reducible refine anG ?_); ((with_reducible refine And.intro ?_ ?_); (· with_reducible assumption))) | fail)
local macro_rules | `(tactic| walk_at "rf") => `(tactic| first | ((with_reducible refine anG ?_); ((with_reducible apply r_isT); (· first | with_reducible assumption | exact rfl))) | ((with_reducible refine anG ?_); ((with_reducible apply r_isF); (· first | with_reducible assumption | exact rfl))) | fail)
local macro_rules | `(tactic| walk_at "rf") => `(tactic| first | ((with_reducible refine exG ?_); (with_reducible refine g_op ?_)) | ((with_reducible refine exG ?_); ((with_reducible apply Exists.intro); (fail_if_success (with_reducible refine g_og ?_ ?_)); (fail_if_success (with_reducible refine repG ?_)); (repeat (with_reducible apply Exists.intro)); refine And.intro rfl ?_)) | fail)
local macro_rules | `(tactic| walk_at "rf") => `(tactic| first | ((with_reducible refine wsG ?_); (with_reducible refine Ws.imp ?_)) | ((with_reducible refine stG ?_); (intro S' hS'; (try simp only [List.cons_append, List.nil_append, List.set_cons_zero, List.set_cons_succ] at hS'); subst hS')) | fail)
local macro_rules | `(tactic| walk_at "rf") => `(tactic| first | ((with_reducible apply wp.eq); (· with_reducible assumption)) | ((with_reducible refine wpG ?_); (with_reducible refine Wp.imp ?_)) | fail)
local macro_rules | `(tactic| walk_at "rf") => `(tactic| first | ((with_reducible apply Exists.intro); (with_reducible refine And.intro ?_ ?_); (· with_reducible assumption)) | ((with_reducible apply g_dr1X); (· with_reducible assumption); (· with_reducible assumption)) | fail)
local macro_rules | `(tactic| walk_at "rf") => `(tactic| first | ((with_reducible apply g_ins); (· with_reducible assumption)) | (with_reducible refine And.intro (List.mem_singleton.mpr rfl) ?_) | fail)
theorem insOf_at {S : Sto} {n : Nat} {c : Str} {ns : List Str} {ds : List D} (h : insOf S (.obj n) = some (c, ns, ds)) : S[n]? = some (.ins c ns ds) := by
  unfold insOf at h
  dsimp only at h
  split at h
  · rename_i e
    cases h
    exact e
  · cases h
theorem at_insOf {S : Sto} {n : Nat} {c : Str} {ns : List Str} {ds : List D} (h : S[n]? = some (.ins c ns ds)) : insOf S (.obj n) = some (c, ns, ds) := by
  unfold insOf
  dsimp only
  rw [h]
theorem ins_set {S S' : Sto} {n : Nat} {c : Str} {ns : List Str} {ds ds' : List D} (h : insOf S (.obj n) = some (c, ns, ds)) (hS : S.set n (.ins c ns ds') = S') : insOf S' (.obj n) = some (c, ns, ds') := by
  subst hS
  exact at_insOf (at_set (insOf_at h))
theorem ins_ne {S S' : Sto} {n m : Nat} {X : O} {c : Str} {ns : List Str} {ds : List D} (h : insOf S (.obj m) = some (c, ns, ds)) (hne : n ≠ m) (hS : S.set n X = S') : insOf S' (.obj m) = some (c, ns, ds) := by
  subst hS
  exact at_insOf (by rw [List.getElem?_set_ne hne]; exact insOf_at h)
theorem mapAn_app {p q : Nat} {z : Int} : as.map An.d ++ [D.tup [nD p, nD q, .int z]] = (as ++ [(⟨p, q, z⟩ : An)]).map An.d := by rw [List.map_append]; rfl
theorem stold_ok (A : SmA S o l a r e ts as rs es) : c_Sameness_told [.obj o] S = .ok (.tup (as.map An.d)) S := ok_of (by
  have hi := A.i
  have ha := A.a
  have ht : bTuple [.lst (as.map An.d)] = some (.tup (as.map An.d)) := rfl
  apply u_Sameness_told
  repeat' walk_at "rf")
end
end
end Rf
set_option Elab.async false
set_option linter.all false
set_option maxRecDepth 100000
set_option maxHeartbeats 0
namespace Rf
open PySem PySem.Spec PyProof.Rows L2 TL Rf
structure ItB (B : Nat) (x : D) : Prop where
  tk : tk x = true
  tup : ∀ ys, x = .tup ys → ys.length ≤ B ∧ ∀ y ∈ ys, Av y
structure RvB (B : Nat) (d : D) : Prop where
  tk : tk d = true
  tup : ∀ xs, d = .tup xs → xs.length ≤ B ∧ ∀ x ∈ xs, ItB B x
theorem ItB.le {A B : Nat} {x : D} (h : ItB A x) (hl : A ≤ B) : ItB B x := ⟨h.tk, fun ys e => ⟨Nat.le_trans (h.tup ys e).1 hl, (h.tup ys e).2⟩⟩
theorem RvB.le {A B : Nat} {x : D} (h : RvB A x) (hl : A ≤ B) : RvB B x := ⟨h.tk, fun ys e => ⟨Nat.le_trans (h.tup ys e).1 hl, fun x hx => ((h.tup ys e).2 x hx).le hl⟩⟩
section
variable {S : Sto} {ts : List Th} {as : List An} {vs : List D}
section
local macro_rules | `(tactic| walk_at "rf") => `(tactic| first | (with_reducible exact rfl) | fail)
local macro_rules | `(tactic| walk_at "rf") => `(tactic| first | ((with_reducible refine anG ?_); ((with_reducible refine And.intro ?_ ?_); exact rfl)) | ((with_reducible refine anG ?_); ((with_reducible refine And.intro ?_ ?_); exact Nat.le_of_ble_eq_true rfl)) | fail)
local macro_rules | `(tactic| walk_at "rf") => `(tactic| first | ((with_reducible refine anG ?_); ((with_reducible apply r_isT); (· first | with_reducible assumption | exact rfl))) | ((with_reducible refine anG ?_); ((with_reducible apply r_isF); (· first | with_reducible assumption | exact rfl))) | fail)
local macro_rules | `(tactic| walk_at "rf") => `(tactic| first | ((with_reducible refine exG ?_); (with_reducible refine g_op ?_)) | ((with_reducible refine exG ?_); ((with_reducible apply Exists.intro); (fail_if_success (with_reducible refine g_og ?_ ?_)); (fail_if_success (with_reducible refine repG ?_)); (repeat (with_reducible apply Exists.intro)); refine And.intro rfl ?_)) | fail)
local macro_rules | `(tactic| walk_at "rf") => `(tactic| first | ((with_reducible refine wsG ?_); (with_reducible refine Ws.imp ?_)) | ((with_reducible refine exG ?_); ((with_reducible apply g_rng1); (· exact rfl); (· constructor <;> omega))) | fail)
local macro_rules | `(tactic| walk_at "rf") => `(tactic| first | ((with_reducible refine lsG ?_); (intro L' hL'; (try simp only [List.set_cons_zero, List.set_cons_succ] at hL'); subst hL')) | ((with_reducible refine wpG ?_); (with_reducible refine Wp.imp ?_)) | fail)
local macro_rules | `(tactic| walk_at "rf") => `(tactic| first | ((with_reducible apply g_c1); (· with_reducible assumption); (· first | with_reducible assumption | rfl)) | (with_reducible refine stopL_in ?_) | fail)
local macro_rules | `(tactic| walk_at "rf") => `(tactic| first | (with_reducible refine wp.eq (labout_eq _ _ _ _ _) ?_) | ((with_reducible apply r_isF); (· exact notF (by with_reducible assumption))) | fail)
local macro_rules | `(tactic| walk_at "rf") => `(tactic| first | ((with_reducible apply wp.eq); (· with_reducible assumption)) | ((with_reducible refine r_dec (fun ht => ?_) (fun ht => ?_)) <;> first | (exact absurd (by with_reducible assumption) ht) | (exact absurd rfl ht) | (exact absurd ht (by with_reducible assumption)) | (exact absurd ht (by decide)) | (exfalso; omega) | (exfalso; simp only [List.length_cons, List.length_nil, List.length_map] at ht; omega) | skip) | fail)
local macro_rules | `(tactic| walk_at "rf") => `(tactic| first | ((with_reducible apply g_b2); (· with_reducible assumption); (· first | with_reducible assumption | rfl); (· first | with_reducible assumption | rfl)) | ((with_reducible apply g_c2); (· with_reducible assumption); (· first | with_reducible assumption | rfl); (· first | with_reducible assumption | rfl)) | fail)
end
end
end Rf
set_option Elab.async false
set_option linter.all false
set_option maxRecDepth 100000
set_option maxHeartbeats 0
namespace Rf
open PySem PySem.Spec PyProof.Rows L2 TL Rf
def nmR (nm : List Nat) (p q : Nat) : Prop := nm.getD p p = nm.getD q q
structure NmOk (nm : List Nat) (n : Nat) : Prop where
  len : nm.length = n
  bd : ∀ p, p < n → nm.getD p p < n
def nmS (nm : List Nat) (x y : Nat) : List Nat := nm.map fun v => if v = y then x else v
theorem getD_no {nm : List Nat} {p : Nat} (h : nm.length ≤ p) : nm.getD p p = p := by
  rw [List.getD_eq_getElem?_getD, List.getElem?_eq_none h]; rfl
theorem nmS_get {nm : List Nat} {n x y p : Nat} (N : NmOk nm n) (hy : y < n) : (nmS nm x y).getD p p = if nm.getD p p = y then x else nm.getD p p := by
  by_cases hp : p < nm.length
  · have h1 : (nmS nm x y).getD p p = if nm[p] = y then x else nm[p] := by
      unfold nmS
      rw [List.getD_eq_getElem?_getD, List.getElem?_map, List.getElem?_eq_getElem hp]; rfl
    have h2 : nm.getD p p = nm[p] := by rw [List.getD_eq_getElem?_getD, List.getElem?_eq_getElem hp]; rfl
    rw [h1, h2]
  · have h1 : (nmS nm x y).getD p p = p := getD_no (by unfold nmS; rw [List.length_map]; omega)
    have h2 : nm.getD p p = p := getD_no (by omega)
    have := N.len
    rw [h1, h2, if_neg (by omega)]
theorem nmS_R {nm : List Nat} {n a b : Nat} (N : NmOk nm n) (ha : a < n) (hb : b < n) (p q : Nat) : nmR (nmS nm (nm.getD a a) (nm.getD b b)) p q ↔ (nmR nm p q ∨ (nmR nm p a ∧ nmR nm q b) ∨ (nmR nm p b ∧ nmR nm q a)) := by
  unfold nmR
  rw [nmS_get N (N.bd b hb), nmS_get N (N.bd b hb)]
  generalize nm.getD a a = x
  generalize nm.getD b b = y
  generalize nm.getD p p = u
  generalize nm.getD q q = v
  split <;> split <;> omega
theorem nm0_get (n p : Nat) : (List.range n).getD p p = p := by
  by_cases h : p < n
  · rw [List.getD_eq_getElem?_getD, List.getElem?_range h]; rfl
  · exact getD_no (by rw [List.length_range]; omega)
/-- the pairs of parts -/
def zE (ts : List Th) (k : Nat) (e : Ed) : List Ed := (((thg ts e.a).pts.zip (thg ts e.b).pts).zipIdx).map fun p => ⟨p.1.1, p.1.2, .part k p.2⟩
theorem zE_ps {ts : List Th} {k : Nat} {e : Ed} : ∀ f ∈ zE ts k e, ∃ i, f.w = .part k i ∧ (thg ts e.a).pts[i]? = some f.a ∧ (thg ts e.b).pts[i]? = some f.b := fun f hf => by
  unfold zE at hf
  obtain ⟨⟨⟨x, y⟩, i⟩, hp, rfl⟩ := List.mem_map.mp hf
  have h := List.mem_zipIdx_iff_getElem?.mp hp
  obtain ⟨h1, h2⟩ := List.getElem?_zip_eq_some.mp h
  exact ⟨i, rfl, h1, h2⟩
theorem zE_pc {ts : List Th} {k : Nat} {e : Ed} (i x y : Nat) (h1 : (thg ts e.a).pts[i]? = some x) (h2 : (thg ts e.b).pts[i]? = some y) : ∃ f ∈ zE ts k e, f.a = x ∧ f.b = y := by
  refine ⟨⟨x, y, .part k i⟩, ?_, rfl, rfl⟩
  unfold zE
  exact List.mem_map.mpr ⟨((x, y), i), List.mem_zipIdx_iff_getElem?.mpr (List.getElem?_zip_eq_some.mpr ⟨h1, h2⟩), rfl⟩
theorem Cl.nm {ts : List Th} {as : List An} {nm : List Nat} {es wt : List Ed} {e : Ed} (I : Cl ts as (nmR nm) es (e :: wt)) (N : NmOk nm ts.length) (hw : ∀ i, i < ts.length → ∀ p ∈ (thg ts i).pts, p < ts.length) : Cl ts as (nmR (nmS nm (nm.getD e.a e.a) (nm.getD e.b e.b))) (es ++ [e]) (wt ++ zE ts es.length e) :=
  I.add (fun _ => rfl) (nmS_R N (I.wb e (.head _)).1 (I.wb e (.head _)).2) zE_ps zE_pc hw
end Rf
set_option Elab.async false
set_option linter.all false
set_option maxRecDepth 100000
set_option maxHeartbeats 0
namespace Rf
open PySem PySem.Spec PyProof.Rows L2 TL Rf
theorem lc_flt {α : Type} {f g : α → D} {p : α → Bool} {all : List D} {t : Tg} {tt : Ls → Sto → R Bool} {te : EM} {Lw : Ls} {S : Sto} {PL : List D → Sto → Prop} (as : List α) (hl : as.length < sizeLine)
    (step : ∀ a ∈ as, ∃ L1, tgA t (f a) Lw = some L1 ∧ @wp noXP _ (tt L1 S) fun b S1 => b = p a ∧ S1 = S ∧ (p a = true → @wp noXP _ (te L1 S) fun y S2 => y = g a ∧ S2 = S))
    (done : PL ((as.filter p).map g) S) : wp (lcLoop none all t tt te Lw (as.map f) S []) PL := by
  refine lc_ea (f := f) (fun bs acc S' => ∃ pre, as = pre ++ bs ∧ acc = (pre.filter p).map g ∧ S' = S) ?_ ?_ as S [] ⟨[], rfl, rfl, rfl⟩
  · rintro a bs acc S' ⟨pre, e, rfl, rfl⟩
    obtain ⟨L1, e1, w⟩ := step a (by rw [e]; simp)
    refine ⟨L1, e1, w.mono ?_⟩
    rintro b S1 ⟨rfl, rfl, k⟩
    by_cases hp : p a = true
    · rw [if_pos hp]
      refine (k hp).mono ?_
      rintro y S2 ⟨rfl, rfl⟩
      refine ⟨?_, pre ++ [a], by rw [e]; simp, ?_, rfl⟩
      · rw [List.length_map]
        have h1 : (pre.filter p).length ≤ pre.length := List.length_filter_le _ _
        have h2 : as.length = pre.length + (bs.length + 1) := by rw [e]; simp
        omega
      · rw [List.filter_append, List.map_append]
        simp [hp]
    · rw [if_neg hp]
      refine ⟨pre ++ [a], by rw [e]; simp, ?_, rfl⟩
      rw [List.filter_append, List.map_append]
      simp [hp]
  · rintro S' acc ⟨pre, e, rfl, rfl⟩
    rw [List.append_nil] at e
    subst e
    exact done
theorem pairI_nd : ∀ (ps qs : List Nat), pairI (ps.map nD) (qs.map nD) = (ps.zip qs).map fun p => D.tup [nD p.1, nD p.2]
  | [], _ => rfl
  | _ :: _, [] => rfl
  | p :: ps, q :: qs => congrArg (D.tup [nD p, nD q] :: ·) (pairI_nd ps qs)
theorem th2 (T : Th) : (∃ ps, T = .tup ps) ∨ (T.pts = [] ∧ ∃ z r, T.d = .tup (.str z :: r) ∧ z ≠ [116, 117, 112, 108, 101]) := by
  cases T with
  | tup ps => exact .inl ⟨ps, rfl⟩
  | _ => exact .inr ⟨rfl, _, _, rfl, by decide⟩
section
variable {S : Sto} {ts : List Th} {as : List An}
section
local macro_rules | `(tactic| walk_at "rf") => `(tactic| first | ((with_reducible refine anG ?_); ((with_reducible refine And.intro ?_ ?_); exact Nat.le_of_ble_eq_true rfl)) | (with_reducible exact rfl) | fail)
local macro_rules | `(tactic| walk_at "rf") => `(tactic| first | ((with_reducible refine anG ?_); ((with_reducible refine r_dec (fun ht => ?_) (fun ht => ?_)) <;> first | (exfalso; omega) | skip)) | ((with_reducible refine anG ?_); ((with_reducible refine And.intro ?_ ?_); exact rfl)) | fail)
local macro_rules | `(tactic| walk_at "rf") => `(tactic| first | ((with_reducible refine anG ?_); ((with_reducible apply r_isT); (· first | with_reducible assumption | exact rfl))) | ((with_reducible refine anG ?_); ((with_reducible apply r_isF); (· first | with_reducible assumption | exact rfl))) | fail)
local macro_rules | `(tactic| walk_at "rf") => `(tactic| first | ((with_reducible refine exG ?_); (with_reducible refine g_op ?_)) | ((with_reducible refine exG ?_); ((with_reducible apply Exists.intro); (fail_if_success (with_reducible refine g_og ?_ ?_)); (fail_if_success (with_reducible refine repG ?_)); (repeat (with_reducible apply Exists.intro)); refine And.intro rfl ?_)) | fail)
local macro_rules | `(tactic| walk_at "rf") => `(tactic| first | ((with_reducible refine wpG ?_); (with_reducible refine Wp.imp ?_)) | ((with_reducible refine wsG ?_); (with_reducible refine Ws.imp ?_)) | fail)
local macro_rules | `(tactic| walk_at "rf") => `(tactic| first | ((with_reducible apply g_b2); (· with_reducible assumption); (· first | with_reducible assumption | rfl); (· first | with_reducible assumption | rfl)) | ((with_reducible refine lsG ?_); (intro L' hL'; (try simp only [List.set_cons_zero, List.set_cons_succ] at hL'); subst hL')) | fail)
end
end
end Rf
set_option Elab.async false
set_option linter.all false
set_option maxRecDepth 100000
set_option maxHeartbeats 0
namespace Rf
open PySem PySem.Spec PyProof.Rows L2 TL Rf
instance (nm : List Nat) (p q : Nat) : Decidable (nmR nm p q) := inferInstanceAs (Decidable (_ = _))
section
variable {S : Sto} {ts : List Th} {as : List An} {nm : List Nat} {es : List Ed}
section
local macro_rules | `(tactic| walk_at "rf") => `(tactic| first | ((with_reducible refine anG ?_); ((with_reducible apply r_isF); (· first | with_reducible assumption | exact rfl))) | ((with_reducible refine anG ?_); ((with_reducible refine r_dec (fun ht => ?_) (fun ht => ?_)) <;> first | (exfalso; omega) | skip)) | fail)
local macro_rules | `(tactic| walk_at "rf") => `(tactic| first | ((with_reducible refine exG ?_); ((with_reducible apply Exists.intro); (fail_if_success (with_reducible refine g_og ?_ ?_)); (fail_if_success (with_reducible refine repG ?_)); (repeat (with_reducible apply Exists.intro)); refine And.intro rfl ?_)) | ((with_reducible refine anG ?_); ((with_reducible apply r_isT); (· first | with_reducible assumption | exact rfl))) | fail)
local macro_rules | `(tactic| walk_at "rf") => `(tactic| first | ((with_reducible refine exG ?_); ((with_reducible apply g_rng1); (· exact rfl); (· constructor <;> omega))) | ((with_reducible refine exG ?_); (with_reducible refine g_op ?_)) | fail)
local macro_rules | `(tactic| walk_at "rf") => `(tactic| first | ((with_reducible refine wpG ?_); (with_reducible refine Wp.imp ?_)) | ((with_reducible refine wsG ?_); (with_reducible refine Ws.imp ?_)) | fail)
local macro_rules | `(tactic| walk_at "rf") => `(tactic| first | (with_reducible refine stopL_in ?_) | ((with_reducible refine lsG ?_); (intro L' hL'; (try simp only [List.set_cons_zero, List.set_cons_succ] at hL'); subst hL')) | fail)
local macro_rules | `(tactic| walk_at "rf") => `(tactic| first | ((with_reducible apply g_b2); (· with_reducible assumption); (· first | with_reducible assumption | rfl); (· first | with_reducible assumption | rfl)) | ((with_reducible apply wp.eq); (· with_reducible assumption)) | fail)
end
end
end Rf
set_option Elab.async false
set_option linter.all false
set_option maxRecDepth 100000
set_option maxHeartbeats 0
namespace Rf
open PySem PySem.Spec PyProof.Rows L2 TL Rf
section
variable {S : Sto} {ts : List Th}
theorem g_I0 {xs : Sto} {K : Str → List Str → List D → Prop} {c : Str} {ns : List Str} {ds : List D} (h : xs[0]? = some (.ins c ns ds)) (k : K c ns ds) : ∃ c ns ds, insOf (S ++ xs) (.obj S.length) = some (c, ns, ds) ∧ K c ns ds := ⟨c, ns, ds, insk0 h, k⟩
section
local macro_rules | `(tactic| walk_at "rf") => `(tactic| first | ((with_reducible refine anG ?_); ((with_reducible refine And.intro ?_ ?_); exact Nat.le_of_ble_eq_true rfl)) | (with_reducible exact rfl) | fail)
local macro_rules | `(tactic| walk_at "rf") => `(tactic| first | ((with_reducible refine anG ?_); ((with_reducible refine And.intro ?_ ?_); exact rfl)) | ((with_reducible refine anG ?_); ((with_reducible refine And.intro ?_ ?_); (· with_reducible assumption))) | fail)
local macro_rules | `(tactic| walk_at "rf") => `(tactic| first | ((with_reducible refine exG ?_); (with_reducible refine g_op ?_)) | ((with_reducible refine exG ?_); ((with_reducible apply Exists.intro); (fail_if_success (with_reducible refine g_og ?_ ?_)); (fail_if_success (with_reducible refine repG ?_)); (repeat (with_reducible apply Exists.intro)); refine And.intro rfl ?_)) | fail)
local macro_rules | `(tactic| walk_at "rf") => `(tactic| first | ((with_reducible refine wpG ?_); (with_reducible apply u_Sameness_add)) | ((with_reducible refine wsG ?_); (with_reducible refine Ws.imp ?_)) | fail)
local macro_rules | `(tactic| walk_at "rf") => `(tactic| first | ((with_reducible apply Exists.intro); (with_reducible refine And.intro ?_ ?_); (· with_reducible exact atk rfl)) | ((with_reducible refine wpG ?_); (with_reducible refine Wp.imp ?_)) | fail)
local macro_rules | `(tactic| walk_at "rf") => `(tactic| first | (with_reducible refine g_I0 rfl ?_) | ((with_reducible apply g_dr1X); (· with_reducible exact atk rfl); (· with_reducible assumption)) | fail)
local macro_rules | `(tactic| walk_at "rf") => `(tactic| first | (with_reducible refine And.intro (atk0 rfl) ?_) | (with_reducible refine stopL_in ?_) | fail)
local macro_rules | `(tactic| walk_at "rf") => `(tactic| first | (with_reducible refine And.intro (List.mem_singleton.mpr rfl) ?_) | (with_reducible refine And.intro (atk rfl) ?_) | fail)
local macro_rules | `(tactic| walk_at "rf") => `(tactic| first | ((with_reducible refine stG ?_); (intro S' hS'; (simp only [appk, lenk, setk, setk0, List.cons_append, List.nil_append, List.set_cons_zero, List.set_cons_succ, List.length_cons, List.length_nil, Nat.zero_add, Nat.reduceAdd, fP0, fP1, fP2, fP3, fP4, fP5, fP6, fP7] at hS'); subst hS')) | ((with_reducible refine ntG ?_); (intro n hn; (simp only [lenk, List.length_cons, List.length_nil, Nat.zero_add, Nat.reduceAdd] at hn); subst hn)) | fail)
abbrev nw (S : Sto) (ts : List Th) (rs : List Nat) : Sto := S ++ [.ins "Sameness" ["listed", "answered", "roots", "edges"] [.obj (S.length + 1), .obj (S.length + 2), .obj (S.length + 3), .obj (S.length + 4)], .lst (ts.map Th.d), .lst [], .lst (rs.map nD), .lst []]
theorem init_things (n : Nat) (hts : ts.length < 10000) : @wp noXP _ (c_Sameness___init__ (n + 1) [.obj S.length, .tup (ts.map Th.d), .tup []] (S ++ [.ins "Sameness" [] []])) fun d S' => d = .non ∧ S' = nw S ts (List.range ts.length) := by
  have big : 100000 < sizeLine := by decide
  apply u_Sameness___init__
  repeat' walk_at "rf"
  unfold stopL
  refine wps_ea (f := Th.d) (fun bs L S' => Iv (∃ (pre : List Th) (z3 z4 z5 z6 : LV), ts = pre ++ bs ∧ L = [.v (.obj S.length), .v (.tup (ts.map Th.d)), .v (.tup []), z3, z4, z5, z6] ∧ S' = nw S pre (List.range pre.length))) ?_ ?_ ts _ _ ⟨[], _, _, _, _, rfl, rfl, rfl⟩
  · rintro t bs L S' ⟨pre, z3, z4, z5, z6, hts2, rfl, rfl⟩
    have hpl : ts.length = pre.length + (bs.length + 1) := by rw [hts2]; simp
    refine tgX _ rfl fun L' hL' => ?_
    subst hL'
    unfold nw
    have hlen : bLen [.lst (pre.map Th.d)] = some (nD pre.length) := by
      show some (D.int (pre.map Th.d).length) = _
      rw [List.length_map]
    have hz1 : (List.map nD (List.range pre.length)).length < sizeLine := by rw [List.length_map, List.length_range]; omega
    have hz2 : (List.map Th.d pre).length < sizeLine := by rw [List.length_map]; omega
    have hlen2 : bLen [.lst (pre.map Th.d ++ [t.d])] = some (nD (pre.length + 1)) := by
      show some (D.int (pre.map Th.d ++ [t.d]).length) = _
      rw [List.length_append, List.length_map]; rfl
    repeat' walk_at "rf"
    show Iv _
    refine ⟨pre ++ [t], _, _, _, _, by rw [hts2]; simp, rfl, ?_⟩
    have e1 : (pre ++ [t]).length = pre.length + 1 := by simp
    have e2 : List.range (pre.length + 1) = List.range pre.length ++ [pre.length] := List.range_succ
    rw [e1, e2]
    rw [List.map_append, List.map_append]
    rfl
  · rintro L S' ⟨pre, z3, z4, z5, z6, hts2, rfl, rfl⟩
    rw [List.append_nil] at hts2
    subst hts2
    repeat' walk_at "rf"
    unfold stopL
    apply f_nil
    repeat' walk_at "rf"
end
end
end Rf
set_option Elab.async false
set_option linter.all false
set_option maxRecDepth 100000
set_option maxHeartbeats 0
namespace Rf
open PySem PySem.Spec PyProof.Rows L2 TL Rf
section
variable {x0 x1 : O} {T : Sto} {o l a r e : Nat} {ts : List Th} {as : List An} {rs : List Nat} {es : List Ed}
theorem SmA.deck {y0 y1 : O} (A : SmA (x0 :: x1 :: T) o l a r e ts as rs es) (h : 2 ≤ o ∧ 2 ≤ l ∧ 2 ≤ a ∧ 2 ≤ r ∧ 2 ≤ e) : SmA (y0 :: y1 :: T) o l a r e ts as rs es := by
  have k : ∀ {n : Nat}, 2 ≤ n → (y0 :: y1 :: T)[n]? = (x0 :: x1 :: T)[n]? := fun {n} hn => by
    match n, hn with
    | n + 2, _ => rfl
  obtain ⟨h0, h1, h2, h3, h4⟩ := h
  exact ⟨at_insOf (by rw [k h0]; exact insOf_at A.i), by rw [k h1]; exact A.l, by rw [k h2]; exact A.a, by rw [k h3]; exact A.r, by rw [k h4]; exact A.e⟩
structure SsX (T : Sto) (o : Nat) (ts : List Th) (as : List An) (l a r e : Nat) (rs : List Nat) (es : List Ed) : Prop where
  A : ∀ x0 x1 : O, SmA (x0 :: x1 :: T) o l a r e ts as rs es
  ap : Apt o l a r e
  lo : 2 ≤ o ∧ 2 ≤ l ∧ 2 ≤ a ∧ 2 ≤ r ∧ 2 ≤ e
  I : Sv ts as rs es []
  no : No as (One rs)
  bd : es.length + rs.sum ≤ 91
/-- a right Sameness stands at o -/
def Ss (T : Sto) (o : Nat) (ts : List Th) (as : List An) : Prop := ∃ l a r e rs es, SsX T o ts as l a r e rs es
/-- what is told of things -/
structure Wd (ts : List Th) (as : List An) : Prop where
  ths : Ths ts
  n0 : 0 < ts.length
  n : ts.length ≤ 14
  ab : ∀ x ∈ as, x.a < ts.length ∧ x.b < ts.length
  t : ∀ x ∈ as, x.t = 0 ∨ x.t = 1
  z : as.length ≤ 8
theorem Wd.p3 (W : Wd ts as) : ∀ i, (thg ts i).pts.length ≤ 3 := fun i => by
  unfold thg
  rw [List.getD_eq_getElem?_getD]
  cases h : ts[i]? with
  | none => exact Nat.zero_le _
  | some t =>
    show t.pts.length ≤ 3
    cases t with
    | tup ps => exact W.ths.ps _ (List.mem_of_getElem? h) ps rfl
    | _ => exact Nat.zero_le _
theorem Ss.pre (Q : Ss T o ts as) (G : Sto) : Ss (T ++ G) o ts as := by
  obtain ⟨l, a, r, e, rs, es, X⟩ := Q
  exact ⟨l, a, r, e, rs, es, fun x0 x1 => (X.A x0 x1).pre G, X.ap, X.lo, X.I, X.no, X.bd⟩
theorem sum_range : ∀ n, n ≤ 14 → (List.range n).sum ≤ 91 := by decide
theorem Ss.new (hn : ts.length ≤ 14) :
    @wp noXP _ (c_Sameness___init__ 10 [.obj (T.length + 2), .tup (ts.map Th.d), .tup []] (x0 :: x1 :: (T ++ [.ins "Sameness" [] []]))) fun d S' => d = .non ∧ ∃ G, S' = x0 :: x1 :: (T ++ G) ∧ Ss (T ++ G) (T.length + 2) ts [] := by
  refine (init_things (S := x0 :: x1 :: T) (ts := ts) 9 (by omega)).mono ?_
  rintro d S' ⟨hd, hS⟩
  refine ⟨hd, _, hS, T.length + 3, T.length + 4, T.length + 5, T.length + 6, List.range ts.length, [], fun y0 y1 => ?_, ⟨by omega, by omega, by omega, by omega, by omega, by omega⟩, by omega, ⟨⟨List.length_range, fun i => by rw [nm0_get]; exact Nat.le_refl _⟩, fun e he => (by cases he), ⟨fun e he => (by cases he), fun e he => (by cases he), fun e he => (by cases he), fun k e he => (by cases he), fun e he => (by cases he), fun e he => (by cases he), fun x hx => (by cases hx), fun M r0 _ _ _ p q h => ?_⟩⟩, fun x hx => (by cases hx), by have := sum_range _ hn; simp only [List.length_nil]; omega⟩
  · exact ⟨insk0 (S := y0 :: y1 :: T) rfl, atk (S := y0 :: y1 :: T) (k := 1) rfl, atk (S := y0 :: y1 :: T) (k := 2) rfl, atk (S := y0 :: y1 :: T) (k := 3) rfl, atk (S := y0 :: y1 :: T) (k := 4) rfl⟩
  · unfold One at h
    rw [root_fix (nm0_get _ _), root_fix (nm0_get _ _)] at h
    subst h
    exact r0 p
theorem Ss.told (Q : Ss T o ts as) : c_Sameness_told [.obj o] (x0 :: x1 :: T) = .ok (.tup (as.map An.d)) (x0 :: x1 :: T) := by
  obtain ⟨l, a, r, e, rs, es, X⟩ := Q
  exact stold_ok (X.A x0 x1)
end
end Rf
set_option Elab.async false
set_option linter.all false
set_option maxRecDepth 100000
set_option maxHeartbeats 0
namespace Rf
open PySem PySem.Spec PyProof.Rows L2 TL Rf
mutual
def rkD : D → Bool
  | .non => true
  | .bl _ => true
  | .int i => decide (i.natAbs < 10 ^ 30)
  | .str x => x.all fun c => decide (c < 16 ^ 8)
  | .tup ds => rkDs ds
  | .lst ds => rkDs ds
  | _ => false
def rkDs : List D → Bool
  | [] => true
  | d :: ds => rkD d && rkDs ds
end
mutual
def bkD : D → Nat
  | .str x => x.length
  | .tup ds => bkDs ds
  | .lst ds => bkDs ds
  | _ => 0
def bkDs : List D → Nat
  | [] => 0
  | d :: ds => bkD d + 1 + bkDs ds
end
theorem shown_int30 {i : Int} (h : i.natAbs < 10 ^ 30) : (PyData.shown (.int i)).length ≤ 31 := by
  show (Str.ofString (toString i)).length ≤ 31
  rw [toString_intS]
  show (intS i).toArray.size ≤ 31
  rw [List.size_toArray]
  cases i with
  | ofNat n => exact Nat.le_trans (numL_lenk (k := 30) (by decide) (by simpa using h)) (by decide)
  | negSucc n =>
    show (numL (n + 1)).length + 1 ≤ 31
    have := numL_lenk (k := 30) (n := n + 1) (by decide) (by simpa using h)
    omega
mutual
def dpD : D → Nat
  | .tup ds => dpDs ds + 1
  | .lst ds => dpDs ds + 1
  | _ => 0
def dpDs : List D → Nat
  | [] => 0
  | d :: ds => max (dpD d) (dpDs ds)
end
mutual
theorem dD_rk : ∀ d : D, rkD d = true → ∃ p, dD d = some p ∧ p.showable = true ∧ p.leavesShort 31 = true ∧ p.bulk ≤ bkD d ∧ p.depth ≤ dpD d
  | .non, _ => ⟨.none, rfl, rfl, rfl, Nat.le_refl _, Nat.le_refl _⟩
  | .bl b, _ => ⟨.bool b, rfl, rfl, rfl, Nat.le_refl _, Nat.le_refl _⟩
  | .int i, h => by
    have h' : i.natAbs < 10 ^ 30 := of_decide_eq_true h
    refine ⟨.int i, rfl, ?_, ?_, Nat.le_refl _, Nat.le_refl _⟩
    · simp only [PyData.showable, decide_eq_true_eq]
      exact Nat.lt_of_lt_of_le (lg (k := 100) (Nat.lt_trans h' (by decide)) (by decide)) (by decide)
    · simp only [PyData.leavesShort, decide_eq_true_eq]
      exact shown_int30 h'
  | .str x, h => by
    refine ⟨.str ⟨x.toArray⟩, rfl, rfl, ?_, Nat.le_refl _, Nat.le_refl _⟩
    simp only [PyData.leavesShort]
    simpa [rkD] using h
  | .tup ds, h => by
    obtain ⟨ps, h1, h2, h3, h4, h5⟩ := dDs_rk ds h
    refine ⟨.tuple ps, by simp only [dD, h1, Option.map_some], by simpa only [PyData.showable] using h2, by simpa only [PyData.leavesShort] using h3, by simpa only [PyData.bulk, bkD] using h4, ?_⟩
    simp only [PyData.depth, dpD]
    omega
  | .lst ds, h => by
    obtain ⟨ps, h1, h2, h3, h4, h5⟩ := dDs_rk ds h
    refine ⟨.list ps, by simp only [dD, h1, Option.map_some], by simpa only [PyData.showable] using h2, by simpa only [PyData.leavesShort] using h3, by simpa only [PyData.bulk, bkD] using h4, ?_⟩
    simp only [PyData.depth, dpD]
    omega
  | .obj _, h => by cases h
  | .gl _, h => by cases h
  | .ty _, h => by cases h
  | .scr _, h => by cases h
  | .edc, h => by cases h
  | .ins _ _ _, h => by cases h
theorem dDs_rk : ∀ ds : List D, rkDs ds = true → ∃ ps, dDs ds = some ps ∧ PyData.showableAll ps = true ∧ PyData.leavesShortAll 31 ps = true ∧ PyData.bulkAll ps ≤ bkDs ds ∧ PyData.depthAll ps ≤ dpDs ds
  | [], _ => ⟨[], rfl, rfl, rfl, Nat.le_refl _, Nat.le_refl _⟩
  | d :: ds, h => by
    have h' : rkD d = true ∧ rkDs ds = true := by simpa only [rkDs, Bool.and_eq_true] using h
    obtain ⟨p, h1, h2, h3, h4, h5⟩ := dD_rk d h'.1
    obtain ⟨ps, k1, k2, k3, k4, k5⟩ := dDs_rk ds h'.2
    refine ⟨p :: ps, by simp only [dDs, h1, k1], by simp only [PyData.showableAll, h2, k2, Bool.and_self], by simp only [PyData.leavesShortAll, h3, k3, Bool.and_self], ?_, ?_⟩
    · simp only [PyData.bulkAll, bkDs]; omega
    · simp only [PyData.depthAll, dpDs]; omega
end
theorem repr_ok {ds : List D} (h1 : rkDs ds = true) (h2 : bkDs ds ≤ 400000) (h3 : dpDs ds ≤ 49) : ∃ x, bRepr [.tup ds] = some (.str x) := by
  obtain ⟨p, k1, k2, k3, k4, k5⟩ := dD_rk (.tup ds) h1
  have k6 : p.bulk ≤ bkDs ds := k4
  have k7 : p.depth ≤ dpDs ds + 1 := k5
  have hl := PyData.shown_le_bulk 31 (by decide) p k3
  have hz : p.shown.length ≤ sizeLine := by
    have : (sizeLine : Nat) = 16777216 := rfl
    omega
  refine ⟨p.shown.cps.toList, ?_⟩
  show (dD (.tup ds)).bind _ = _
  rw [k1]
  show (reprD p).map D.str = _
  unfold reprD
  rw [if_pos ⟨k2, hz, by omega⟩]
  rfl
theorem rkDs_all {ds : List D} (h : ∀ d ∈ ds, rkD d = true) : rkDs ds = true := by
  induction ds with
  | nil => rfl
  | cons d ds ih => simp only [rkDs, h d (List.mem_cons_self ..), ih fun x hx => h x (List.mem_cons_of_mem _ hx), Bool.and_self]
theorem bkDs_le {ds : List D} {m : Nat} (h : ∀ d ∈ ds, bkD d ≤ m) : bkDs ds ≤ ds.length * (m + 1) := by
  induction ds with
  | nil => exact Nat.zero_le _
  | cons d ds ih =>
    have h1 := h d (List.mem_cons_self ..)
    have h2 := ih fun x hx => h x (List.mem_cons_of_mem _ hx)
    simp only [bkDs, List.length_cons, Nat.add_mul, Nat.one_mul]
    omega
theorem dpDs_le {ds : List D} {m : Nat} (h : ∀ d ∈ ds, dpD d ≤ m) : dpDs ds ≤ m := by
  induction ds with
  | nil => exact Nat.zero_le _
  | cons d ds ih =>
    have h1 := h d (List.mem_cons_self ..)
    have h2 := ih fun x hx => h x (List.mem_cons_of_mem _ hx)
    simp only [dpDs]
    omega
end Rf
set_option Elab.async false
set_option linter.all false
set_option maxRecDepth 100000
set_option maxHeartbeats 0
namespace Rf
open PySem PySem.Spec PyProof.Rows L2 TL Rf
def Th.sm : Th → Prop
  | .num i => i.natAbs ≤ 10 ^ 18
  | .word x => x.length ≤ 8
  | _ => True
section
variable {n : Nat} {x0 x1 : O} {T S : Sto}
section
local macro_rules | `(tactic| walk_at "rf") => `(tactic| first | ((with_reducible refine exG ?_); ((with_reducible apply Exists.intro); (fail_if_success (with_reducible refine g_og ?_ ?_)); (fail_if_success (with_reducible refine repG ?_)); (repeat (with_reducible apply Exists.intro)); refine And.intro rfl ?_)) | ((with_reducible refine anG ?_); ((with_reducible refine And.intro ?_ ?_); exact Nat.le_of_ble_eq_true rfl)) | fail)
local macro_rules | `(tactic| walk_at "rf") => `(tactic| first | ((with_reducible refine exG ?_); ((with_reducible apply g_rng1); (· exact rfl); (· constructor <;> omega))) | ((with_reducible refine exG ?_); (with_reducible refine g_op ?_)) | fail)
local macro_rules | `(tactic| walk_at "rf") => `(tactic| first | ((with_reducible refine wpG ?_); ((with_reducible apply w_one3); (· assumption); (· first | assumption | (intro h; cases h)); (· first | assumption | exact Nat.le_of_ble_eq_true rfl); intro x x0 x1 hx hd)) | ((with_reducible refine wsG ?_); (with_reducible refine Ws.imp ?_)) | fail)
local macro_rules | `(tactic| walk_at "rf") => `(tactic| first | ((with_reducible refine wpG ?_); (with_reducible refine Wp.imp ?_)) | ((with_reducible refine wpG ?_); ((with_reducible apply w_draw3); (· assumption); (· first | decide | omega); (· first | decide | assumption | exact Nat.lt_of_lt_of_le (lgi (k := 64) (by omega) (by decide)) (by decide)); intro r x0 x1 h0 h1 hd)) | fail)
local macro_rules | `(tactic| walk_at "rf") => `(tactic| first | ((with_reducible refine r_dec (fun ht => ?_) (fun ht => ?_)) <;> first | (exact absurd (by with_reducible assumption) ht) | (exact absurd rfl ht) | (exact absurd ht (by with_reducible assumption)) | (exact absurd ht (by decide)) | (exfalso; omega) | skip) | ((with_reducible refine lsG ?_); (intro L' hL'; (try simp only [List.set_cons_zero, List.set_cons_succ] at hL'); subst hL')) | fail)
theorem word_k (h : DkE (n + 20) x0 x1) : @wp noXP _ (c__law_word [.obj 1] (x0 :: x1 :: T)) fun d S' => Iv (∃ (y0 y1 : O) (x : List Nat), S' = y0 :: y1 :: T ∧ DkE n y0 y1 ∧ d = .str x ∧ x.length ≤ 8 ∧ ∀ c ∈ x, c < 0x110000) := by
  apply u__law_word
  repeat' walk_at "rf"
  · rename_i r y0 y1 h0 h1 hd ht x z0 z1 hx hd'
    refine ⟨z0, z1, ?_⟩
    have hd2 : DkE n z0 z1 := hd'.le (by omega)
    simp only [List.mem_cons, List.not_mem_nil, or_false] at hx
    rcases hx with rfl | rfl | rfl
    · exact ⟨[97], rfl, hd2, rfl, by decide, by decide⟩
    · exact ⟨[98], rfl, hd2, rfl, by decide, by decide⟩
    · exact ⟨[48], rfl, hd2, rfl, by decide, by decide⟩
  · rename_i r y0 y1 h0 h1 hd ht r2 w0 w1 h2 h3 hd2
    refine lc_rng (fun j m acc S => Iv (∃ (cs : List Nat) (y0 y1 : O), S = y0 :: y1 :: T ∧ acc = cs.map (fun c => .str [c]) ∧ cs.length + m = (1 + r2).toNat ∧ DkE (n + m) y0 y1 ∧ ∀ c ∈ cs, c < 0x110000)) ?_ ?_ _ _ _ _ ⟨[], _, _, rfl, rfl, by simp, hd2.le (by omega), by simp⟩
    · rintro j m acc S ⟨cs, y0, y1, rfl, rfl, hl, hd, hp⟩
      have hd0 : DkE ((n + m) + 1) y0 y1 := hd
      have hz : 1000 < sizeLine := by decide
      have hsz : cs.length < sizeLine := by omega
      refine ⟨_, rfl, r_tYs ?_⟩
      rw [if_pos rfl]
      repeat' walk_at "rf"
      rename_i r3 v0 v1 h4 h5 hd3
      obtain ⟨k, rfl⟩ : ∃ k : Nat, r3 = (k : Int) := ⟨r3.toNat, by omega⟩
      have hk : k < alph.length := by show k < 36; omega
      refine ⟨.str [alph[k]], ix_str (by decide) hk, by rw [List.length_map]; omega, cs ++ [alph[k]], _, _, rfl, by rw [List.map_append]; rfl, by rw [List.length_append, List.length_singleton]; omega, hd3, fun c hc => ?_⟩
      rcases List.mem_append.mp hc with z | z
      · exact hp c z
      · rw [List.mem_singleton.mp z]
        exact alph_lt _ (List.getElem_mem hk)
    · rintro j S acc ⟨cs, y0, y1, rfl, rfl, hl, hd, hp⟩
      refine ⟨_, join_one (by omega), ?_⟩
      repeat' walk_at "rf"
      exact ⟨_, _, cs, rfl, hd, rfl, by omega, hp⟩
end
section
local macro_rules | `(tactic| walk_at "rf") => `(tactic| first | ((with_reducible refine anG ?_); ((with_reducible refine And.intro ?_ ?_); (· ((with_reducible refine ltG ?_); (simp only [List.length_map, List.length_append, List.length_replicate, List.length_cons, List.length_nil]; omega))))) | (with_reducible exact rfl) | fail)
local macro_rules | `(tactic| walk_at "rf") => `(tactic| first | ((with_reducible refine anG ?_); ((with_reducible refine And.intro ?_ ?_); exact rfl)) | ((with_reducible refine anG ?_); ((with_reducible refine And.intro ?_ ?_); exact Nat.le_of_ble_eq_true rfl)) | fail)
local macro_rules | `(tactic| walk_at "rf") => `(tactic| first | ((with_reducible refine exG ?_); ((with_reducible apply Exists.intro); (fail_if_success (with_reducible refine g_og ?_ ?_)); (fail_if_success (with_reducible refine repG ?_)); (repeat (with_reducible apply Exists.intro)); refine And.intro rfl ?_)) | ((with_reducible refine anG ?_); ((with_reducible refine r_dec (fun ht => ?_) (fun ht => ?_)) <;> first | (exfalso; omega) | skip)) | fail)
local macro_rules | `(tactic| walk_at "rf") => `(tactic| first | ((with_reducible refine exG ?_); (with_reducible refine g_op ?_)) | ((with_reducible refine exG ?_); ((with_reducible refine g_og ?_ ?_); (· first | assumption | decide | omega | exact Nat.le_of_ble_eq_true rfl | (simp only [List.length_append, List.length_map, List.length_replicate, List.length_cons, List.length_nil]; omega)))) | fail)
local macro_rules | `(tactic| walk_at "rf") => `(tactic| first | ((with_reducible refine exG ?_); ((with_reducible apply g_rng1); (· exact rfl); (· constructor <;> omega))) | ((with_reducible refine exG ?_); ((with_reducible apply g_as); (· with_reducible assumption))) | fail)
local macro_rules | `(tactic| walk_at "rf") => `(tactic| first | ((with_reducible refine wpG ?_); ((with_reducible apply w_one3); (· assumption); (· first | assumption | (intro h; cases h)); (· first | assumption | exact Nat.le_of_ble_eq_true rfl); intro x x0 x1 hx hd)) | ((with_reducible refine wsG ?_); (with_reducible refine Ws.imp ?_)) | fail)
local macro_rules | `(tactic| walk_at "rf") => `(tactic| first | ((with_reducible refine wpG ?_); (with_reducible refine Wp.imp ?_)) | ((with_reducible refine wpG ?_); ((with_reducible apply w_draw3); (· assumption); (· first | decide | omega); (· first | decide | assumption | exact Nat.lt_of_lt_of_le (lgi (k := 64) (by omega) (by decide)) (by decide)); intro r x0 x1 h0 h1 hd)) | fail)
local macro_rules | `(tactic| walk_at "rf") => `(tactic| first | ((with_reducible apply g_b2); (· with_reducible assumption); (· first | with_reducible assumption | rfl); (· first | with_reducible assumption | rfl)) | ((with_reducible refine lsG ?_); (intro L' hL'; (try simp only [List.set_cons_zero, List.set_cons_succ] at hL'); subst hL')) | fail)
local macro_rules | `(tactic| walk_at "rf") => `(tactic| first | ((with_reducible apply g_drL); (· with_reducible exact atA)) | ((with_reducible apply g_dr1); (· with_reducible exact atA)) | fail)
/-- a drawn thing; tuples name things ahead that are no rows -/
theorem thing_k {ts : List Th} (hl : ts.length < 1000) (h : DkE (n + 40) x0 x1) :
    @wp noXP _ (c__law_thing [.obj 1, .obj (T.length + 1 + 1)] (x0 :: x1 :: (T ++ [.lst (ts.map Th.d)]))) fun d S' => Iv (∃ (y0 y1 : O) (t : Th), S' = y0 :: y1 :: (T ++ [.lst (ts.map Th.d)]) ∧ DkE n y0 y1 ∧ d = t.d ∧ t.sm ∧ t.ok ts.length ∧ ∀ ps, t = .tup ps → ps.length ≤ 3) := by
  have hlm : (ts.map Th.d).length = ts.length := List.length_map _
  have hlz : (ts.map Th.d).length ≤ sizeLine := by rw [hlm]; exact Nat.le_trans (by omega : _ ≤ 1000) (by decide)
  have hlz2 : (ts.map Th.d).length < 1000 := by rw [hlm]; exact hl
  apply u__law_thing
  repeat' walk_at "rf"
  rename_i r y0 y1 h0 h1 hd
  rw [show (((ts.map Th.d).length : Int)).toNat = ts.length by rw [hlm]; omega]
  refine lc_fix (by have := sl_z; omega) (fun k => !decide ((ts.getD k .row).nm = [114, 111, 119])) (fun k hk => ⟨_, rfl, ok_ofA ?_, ok_of ?_⟩) ?_
  · have e : oIx (.lst (ts.map Th.d)) (nD k) = some (.tup (.str (ts.getD k .row).nm :: (ts.getD k .row).rs)) := by rw [← Th.d_eq]; exact oIx_map hk .row
    generalize (ts.getD k .row).nm = z at e ⊢
    repeat' walk_at "rf"
    exact ⟨decide_not, rfl⟩
  · repeat' walk_at "rf"
    all_goals exact ⟨rfl, rfl⟩
  · intro ks hkl hk1 hk2
    have e0 := cEq_nilN ks
    repeat' walk_at "rf"
    · rename_i hlt r2 v0 v1 h2 h3 hd2 x w0 w1 hx hd3
      have hd4 : DkE n w0 w1 := hd3.le (by omega)
      simp only [List.mem_cons, List.not_mem_nil, or_false] at hx
      rcases hx with rfl | rfl | rfl | rfl | rfl | rfl
      all_goals exact ⟨w0, w1, .num _, rfl, hd4, rfl, by show Int.natAbs _ ≤ 10 ^ 18; first | decide | (have h9 := Int.lt_of_lt_of_le h3 (by decide : (10 : Int) ^ Int.toNat 6 ≤ 1000000); omega), trivial, fun ps e => by cases e⟩
    · exact ⟨y0, y1, .odd, rfl, hd.le (by omega), rfl, trivial, trivial, fun ps e => by cases e⟩
    · refine (word_k (n := n) (hd.le (by omega))).mono fun d S' ⟨v0, v1, x, hS, hd2, hx, hxl, hc⟩ => ?_
      subst hS hx
      repeat' walk_at "rf"
      exact ⟨v0, v1, .word x, rfl, hd2, rfl, hxl, hc, fun ps e => by cases e⟩
    · exact ⟨y0, y1, .row, rfl, hd.le (by omega), rfl, trivial, trivial, fun ps e => by cases e⟩
    · exact ⟨y0, y1, .tup [], rfl, hd.le (by omega), rfl, trivial, ⟨by decide, by simp⟩, fun ps e => by cases e; decide⟩
    · rename_i hks x w0 w1 hx hd3
      obtain ⟨m, rfl, hm⟩ : ∃ m : Nat, x = nD m ∧ m ≤ 3 := by
        simp only [List.mem_cons, List.not_mem_nil, or_false] at hx
        rcases hx with rfl | rfl | rfl | rfl | rfl | rfl
        · exact ⟨1, rfl, by decide⟩
        · exact ⟨1, rfl, by decide⟩
        · exact ⟨2, rfl, by decide⟩
        · exact ⟨2, rfl, by decide⟩
        · exact ⟨3, rfl, by decide⟩
        · exact ⟨0, rfl, by decide⟩
      have hkz : (ks.map nD).length < 2 ^ 40 := by rw [List.length_map]; exact Nat.lt_of_le_of_lt hkl (Nat.lt_trans hl (by decide))
      have hkn : ks.map nD ≠ [] := fun e => hks (List.map_eq_nil_iff.mp e)
      repeat' walk_at "rf"
      refine lc_rng (fun j k acc S => Iv (∃ (ps : List Nat) (y0 y1 : O), S = y0 :: y1 :: (T ++ [.lst (ts.map Th.d)]) ∧ acc = ps.map nD ∧ ps.length + k = m ∧ DkE (n + k) y0 y1 ∧ ∀ p ∈ ps, p < ts.length)) ?_ ?_ _ _ _ _ ⟨[], _, _, rfl, rfl, by simp, hd3.le (by omega), by simp⟩
      · rintro j k acc S ⟨ps, y0, y1, rfl, rfl, hpl, hd, hp⟩
        have hd0 : DkE ((n + k) + 1) y0 y1 := hd
        have hz : 1000 < sizeLine := by decide
        have hsz : ps.length < sizeLine := by omega
        refine ⟨_, rfl, r_tYs ?_⟩
        rw [if_pos rfl]
        repeat' walk_at "rf"
        rename_i x v0 v1 hx hd4
        obtain ⟨q, hq, rfl⟩ := List.mem_map.mp hx
        exact ⟨ps ++ [q], _, _, rfl, by rw [List.map_append]; rfl, by rw [List.length_append, List.length_singleton]; omega, hd4, fun c hc => by
          rcases List.mem_append.mp hc with z | z
          · exact hp c z
          · rw [List.mem_singleton.mp z]; exact (hk1 q hq).1⟩
      · rintro j S acc ⟨ps, y0, y1, rfl, rfl, hpl, hd, hp⟩
        repeat' walk_at "rf"
        exact ⟨y0, y1, .tup ps, rfl, hd, rfl, trivial, ⟨by omega, hp⟩, fun qs e => by cases e; omega⟩
end
section
local macro_rules | `(tactic| walk_at "rf") => `(tactic| first | ((with_reducible refine And.intro ?_ ?_); (· with_reducible exact atA)) | ((with_reducible apply Exists.intro); (with_reducible refine And.intro ?_ ?_); (· with_reducible exact atA)) | fail)
local macro_rules | `(tactic| walk_at "rf") => `(tactic| first | ((with_reducible refine anG ?_); ((with_reducible refine And.intro ?_ ?_); exact Nat.le_of_ble_eq_true rfl)) | ((with_reducible apply g_dr1); (· with_reducible exact atA)) | fail)
local macro_rules | `(tactic| walk_at "rf") => `(tactic| first | ((with_reducible refine exG ?_); ((with_reducible apply Exists.intro); (fail_if_success (with_reducible refine g_og ?_ ?_)); (fail_if_success (with_reducible refine repG ?_)); (repeat (with_reducible apply Exists.intro)); refine And.intro rfl ?_)) | ((with_reducible refine anG ?_); ((with_reducible refine And.intro ?_ ?_); (· with_reducible assumption))) | fail)
local macro_rules | `(tactic| walk_at "rf") => `(tactic| first | ((with_reducible refine ntG ?_); (intro n hn; (try simp only [List.length_cons, List.length_nil, Nat.zero_add, Nat.reduceAdd] at hn); subst hn)) | ((with_reducible refine exG ?_); ((with_reducible apply g_rng1); (· exact rfl); (· constructor <;> omega))) | fail)
local macro_rules | `(tactic| walk_at "rf") => `(tactic| first | ((with_reducible refine wsG ?_); (with_reducible refine Ws.imp ?_)) | ((with_reducible refine stG ?_); (intro S' hS'; (try simp only [List.cons_append, List.nil_append, List.set_cons_zero, List.set_cons_succ] at hS'); subst hS')) | fail)
local macro_rules | `(tactic| walk_at "rf") => `(tactic| first | ((with_reducible refine lsG ?_); (intro L' hL'; (try simp only [List.set_cons_zero, List.set_cons_succ] at hL'); subst hL')) | ((with_reducible refine wpG ?_); (with_reducible refine Wp.imp ?_)) | fail)
structure ThsK (ts : List Th) : Prop where
  h : Ths ts
  sm : ∀ t ∈ ts, t.sm
theorem ThsK.app {ts : List Th} {t : Th} (h : ThsK ts) (h1 : t.ok ts.length) (h2 : ∀ ps, t = .tup ps → ps.length ≤ 3) (h3 : t.sm) : ThsK (ts ++ [t]) := ⟨h.h.app h1 h2, fun u hu => by
  rcases List.mem_append.mp hu with z | z
  · exact h.sm u z
  · rw [List.mem_singleton.mp z]; exact h3⟩
theorem things_k {m : Nat} (hm : m ≤ 20) (h : DkE (n + 50 * 21) x0 x1) :
    @wp noXP _ (c__law_things [.obj 1, nD m] (x0 :: x1 :: T)) fun d S' => Iv (∃ (y0 y1 : O) (ts : List Th), S' = y0 :: y1 :: (T ++ [.lst (ts.map Th.d)]) ∧ DkE n y0 y1 ∧ d = .tup (ts.map Th.d) ∧ ts.length = m ∧ ThsK ts) := by
  apply u__law_things
  repeat' walk_at "rf"
  refine wps_rng (fun j k L S => Iv (∃ (ts : List Th) (y0 y1 : O) (z : LV), S = y0 :: y1 :: (T ++ [.lst (ts.map Th.d)]) ∧ L = [.v (.obj 1), .v (nD m), .v (.obj (T.length + 1 + 1)), z] ∧ ts.length + k = m ∧ DkE (n + 50 * (k + 1)) y0 y1 ∧ ThsK ts)) ?_ ?_ _ _ _ _ ⟨[], _, _, _, rfl, rfl, by simp, h.le (by omega), ⟨⟨by simp, by simp⟩, by simp⟩⟩
  · rintro j k L S ⟨ts, y0, y1, z, rfl, rfl, hl, hd, hts⟩
    have hz := sl_z
    refine tgX _ rfl ?_
    repeat' walk_at "rf"
    refine (thing_k (n := n + 50 * (k + 1)) (T := T) (by omega) (hd.le (by omega))).mono fun d S' ⟨v0, v1, t, hS, hd2, hdt, hsm, hok, hps⟩ => ?_
    subst hS hdt
    have hlm : (ts.map Th.d).length < sizeLine := by rw [List.length_map]; omega
    repeat' walk_at "rf"
    exact ⟨ts ++ [t], v0, v1, _, by rw [List.map_append]; simp, rfl, by rw [List.length_append, List.length_singleton]; omega, hd2, hts.app hok hps hsm⟩
  · rintro j L S ⟨ts, y0, y1, z, rfl, rfl, hl, hd, hts⟩
    repeat' walk_at "rf"
    exact ⟨y0, y1, ts, rfl, hd.le (by omega), rfl, hl, hts⟩
end
end
end Rf
set_option Elab.async false
set_option linter.all false
set_option maxRecDepth 100000
set_option maxHeartbeats 0
namespace Rf
open PySem PySem.Spec PyProof.Rows L2 TL Rf
section
variable {S : Sto} {ts : List Th} {as : List An}
section
local macro_rules | `(tactic| walk_at "rf") => `(tactic| first | ((with_reducible refine anG ?_); ((with_reducible refine And.intro ?_ ?_); exact Nat.le_of_ble_eq_true rfl)) | (with_reducible exact rfl) | fail)
local macro_rules | `(tactic| walk_at "rf") => `(tactic| first | ((with_reducible refine anG ?_); ((with_reducible refine r_dec (fun ht => ?_) (fun ht => ?_)) <;> first | (exfalso; omega) | skip)) | ((with_reducible refine anG ?_); ((with_reducible refine And.intro ?_ ?_); exact rfl)) | fail)
local macro_rules | `(tactic| walk_at "rf") => `(tactic| first | ((with_reducible refine anG ?_); ((with_reducible apply r_isT); (· first | with_reducible assumption | exact rfl))) | ((with_reducible refine anG ?_); ((with_reducible apply r_isF); (· first | with_reducible assumption | exact rfl))) | fail)
local macro_rules | `(tactic| walk_at "rf") => `(tactic| first | ((with_reducible refine exG ?_); (with_reducible refine g_op ?_)) | ((with_reducible refine exG ?_); ((with_reducible apply Exists.intro); (fail_if_success (with_reducible refine g_og ?_ ?_)); (fail_if_success (with_reducible refine repG ?_)); (repeat (with_reducible apply Exists.intro)); refine And.intro rfl ?_)) | fail)
local macro_rules | `(tactic| walk_at "rf") => `(tactic| first | ((with_reducible refine wpG ?_); (with_reducible refine Wp.imp ?_)) | ((with_reducible refine wsG ?_); (with_reducible refine Ws.imp ?_)) | fail)
local macro_rules | `(tactic| walk_at "rf") => `(tactic| first | ((with_reducible apply g_b2); (· with_reducible assumption); (· first | with_reducible assumption | rfl); (· first | with_reducible assumption | rfl)) | ((with_reducible refine lsG ?_); (intro L' hL'; (try simp only [List.set_cons_zero, List.set_cons_succ] at hL'); subst hL')) | fail)
end
end
section
variable {S : Sto} {ts : List Th} {as : List An} {nm : List Nat} {es : List Ed}
section
local macro_rules | `(tactic| walk_at "rf") => `(tactic| first | ((with_reducible refine anG ?_); ((with_reducible apply r_isF); (· first | with_reducible assumption | exact rfl))) | ((with_reducible refine anG ?_); ((with_reducible refine r_dec (fun ht => ?_) (fun ht => ?_)) <;> first | (exfalso; omega) | skip)) | fail)
local macro_rules | `(tactic| walk_at "rf") => `(tactic| first | ((with_reducible refine exG ?_); ((with_reducible apply Exists.intro); (fail_if_success (with_reducible refine g_og ?_ ?_)); (fail_if_success (with_reducible refine repG ?_)); (repeat (with_reducible apply Exists.intro)); refine And.intro rfl ?_)) | ((with_reducible refine anG ?_); ((with_reducible apply r_isT); (· first | with_reducible assumption | exact rfl))) | fail)
local macro_rules | `(tactic| walk_at "rf") => `(tactic| first | ((with_reducible refine exG ?_); ((with_reducible apply g_rng1); (· exact rfl); (· constructor <;> omega))) | ((with_reducible refine exG ?_); (with_reducible refine g_op ?_)) | fail)
local macro_rules | `(tactic| walk_at "rf") => `(tactic| first | ((with_reducible refine wpG ?_); (with_reducible refine Wp.imp ?_)) | ((with_reducible refine wsG ?_); (with_reducible refine Ws.imp ?_)) | fail)
local macro_rules | `(tactic| walk_at "rf") => `(tactic| first | (with_reducible refine stopL_in ?_) | ((with_reducible refine lsG ?_); (intro L' hL'; (try simp only [List.set_cons_zero, List.set_cons_succ] at hL'); subst hL')) | fail)
local macro_rules | `(tactic| walk_at "rf") => `(tactic| first | ((with_reducible apply g_b2); (· with_reducible assumption); (· first | with_reducible assumption | rfl); (· first | with_reducible assumption | rfl)) | ((with_reducible apply wp.eq); (· with_reducible assumption)) | fail)
end
end
section
variable {n : Nat} {x0 x1 : O} {T : Sto} {o : Nat} {ts : List Th} {as : List An}
theorem Wd.app (W : Wd ts as) {p q : Nat} {z : Int} (hp : p < ts.length) (hq : q < ts.length) (h : z = 0 ∨ z = 1) (hz : as.length < 8) : Wd ts (as ++ [⟨p, q, z⟩]) where
  ths := W.ths
  n0 := W.n0
  n := W.n
  ab := fun x hx => by
    rcases List.mem_append.mp hx with k | k
    · exact W.ab x k
    · cases List.mem_singleton.mp k; exact ⟨hp, hq⟩
  t := fun x hx => by
    rcases List.mem_append.mp hx with k | k
    · exact W.t x k
    · cases List.mem_singleton.mp k; exact h
  z := by rw [List.length_append, List.length_singleton]; omega
theorem Ss.ins (Q : Ss T o ts as) (x0 x1 : O) : ∃ l a r e : Nat, insOf (x0 :: x1 :: T) (.obj o) = some (("Sameness" : Str), (["listed", "answered", "roots", "edges"] : List Str), [D.obj l, .obj a, .obj r, .obj e]) := by
  obtain ⟨l, a, r, e, rs, es, X⟩ := Q
  exact ⟨l, a, r, e, (X.A x0 x1).i⟩
end
end Rf
set_option Elab.async false
set_option linter.all false
set_option maxRecDepth 100000
set_option maxHeartbeats 0
namespace Rf
open PySem PySem.Spec PyProof.Rows L2 TL Rf
def mx (r : List Nat) : Nat := r.foldl (fun m x => max m (x + 1)) 0
theorem mx_snoc (r : List Nat) (m : Nat) : mx (r ++ [m]) = max (mx r) (m + 1) := by
  unfold mx
  rw [List.foldl_append]
  rfl
theorem mx_ge : ∀ (r : List Nat) (a : Nat), a ≤ r.foldl (fun m x => max m (x + 1)) a ∧ ∀ x ∈ r, x < r.foldl (fun m x => max m (x + 1)) a
  | [], a => ⟨Nat.le_refl _, fun x h => by cases h⟩
  | y :: r, a => by
    obtain ⟨h1, h2⟩ := mx_ge r (max a (y + 1))
    refine ⟨?_, fun x hx => ?_⟩
    · show a ≤ r.foldl _ (max a (y + 1))
      omega
    · show x < r.foldl _ (max a (y + 1))
      rcases List.mem_cons.mp hx with rfl | hx
      · omega
      · exact h2 x hx
theorem lt_mx {r : List Nat} {x : Nat} (h : x ∈ r) : x < mx r := (mx_ge r 0).2 x h
def dvs : Nat → List (List Nat)
  | 0 => [[]]
  | n + 1 => ((dvs n).map fun r => (List.range (mx r + 1)).map fun m => r ++ [m]).flatten
theorem dvs_mem {n : Nat} {r : List Nat} : r ∈ dvs (n + 1) ↔ ∃ s ∈ dvs n, ∃ m, m < mx s + 1 ∧ r = s ++ [m] := by
  rw [dvs, List.mem_flatten]
  constructor
  · rintro ⟨l, hl, hr⟩
    obtain ⟨s, hs, rfl⟩ := List.mem_map.mp hl
    obtain ⟨m, hm, rfl⟩ := List.mem_map.mp hr
    exact ⟨s, hs, m, List.mem_range.mp hm, rfl⟩
  · rintro ⟨s, hs, m, hm, rfl⟩
    exact ⟨_, List.mem_map.mpr ⟨s, hs, rfl⟩, List.mem_map.mpr ⟨m, List.mem_range.mpr hm, rfl⟩⟩
theorem dvs_len : ∀ {n : Nat} {r : List Nat}, r ∈ dvs n → r.length = n ∧ mx r ≤ n
  | 0, r, h => by rw [dvs, List.mem_singleton] at h; subst h; exact ⟨rfl, Nat.le_refl _⟩
  | n + 1, r, h => by
    obtain ⟨s, hs, m, hm, rfl⟩ := dvs_mem.mp h
    obtain ⟨h1, h2⟩ := dvs_len hs
    rw [List.length_append, List.length_singleton, mx_snoc]
    exact ⟨by omega, by omega⟩
theorem getD_snoc (r : List Nat) (m a : Nat) : (r ++ [m]).getD a 0 = if a < r.length then r.getD a 0 else if a = r.length then m else 0 := by
  rw [List.getD_eq_getElem?_getD, List.getD_eq_getElem?_getD, List.getElem?_append]
  split
  · rfl
  · split
    · rename_i h
      subst h
      rw [Nat.sub_self]
      rfl
    · rw [List.getElem?_eq_none (by rw [List.length_singleton]; omega)]
      rfl
theorem getD_memN {r : List Nat} {p : Nat} (h : p < r.length) : r.getD p 0 ∈ r := by
  rw [List.getD_eq_getElem?_getD, List.getElem?_eq_getElem h]
  exact List.getElem_mem h
theorem dvs_ex {M : Nat → Nat → Prop} (rf : ∀ p, M p p) (sy : ∀ {p q}, M p q → M q p) (tr : ∀ {p q r}, M p q → M q r → M p r) : ∀ n, ∃ r ∈ dvs n, ∀ p q, p < n → q < n → (r.getD p 0 = r.getD q 0 ↔ M p q)
  | 0 => ⟨[], List.mem_singleton.mpr rfl, fun p q h => by omega⟩
  | n + 1 => by
    obtain ⟨r, hr, h⟩ := dvs_ex rf sy tr n
    have hl := (dvs_len hr).1
    have one : ∃ m, m < mx r + 1 ∧ ∀ p, p < n → (r.getD p 0 = m ↔ M p n) := by
      by_cases hx : ∃ p, p < n ∧ M p n
      · obtain ⟨p, hp, hm⟩ := hx
        refine ⟨r.getD p 0, Nat.lt_succ_of_lt (lt_mx (getD_memN (by omega))), fun q hq => ?_⟩
        rw [h q p hq hp]
        exact ⟨fun k => tr k hm, fun k => tr k (sy hm)⟩
      · refine ⟨mx r, Nat.lt_succ_self _, fun q hq => ⟨fun k => ?_, fun k => absurd ⟨q, hq, k⟩ hx⟩⟩
        have := lt_mx (getD_memN (r := r) (p := q) (by omega))
        omega
    obtain ⟨m, hm, ho⟩ := one
    refine ⟨r ++ [m], dvs_mem.mpr ⟨r, hr, m, hm, rfl⟩, fun p q hp hq => ?_⟩
    rw [getD_snoc, getD_snoc, hl]
    by_cases h1 : p < n
    · rw [if_pos h1]
      by_cases h2 : q < n
      · rw [if_pos h2]; exact h p q h1 h2
      · have : q = n := by omega
        subst this
        rw [if_neg h2, if_pos rfl]
        exact ho p h1
    · have : p = n := by omega
      subst this
      rw [if_neg h1, if_pos rfl]
      by_cases h2 : q < p
      · rw [if_pos h2]
        exact ⟨fun k => sy ((ho q h2).mp k.symm), fun k => ((ho q h2).mpr (sy k)).symm⟩
      · have : q = p := by omega
        subst this
        rw [if_neg h2, if_pos rfl]
        exact ⟨fun _ => rf _, fun _ => rfl⟩
/-- together by a row -/
def MR (r : List Nat) (p q : Nat) : Prop := p = q ∨ (p < r.length ∧ q < r.length ∧ r.getD p 0 = r.getD q 0)
theorem MR_lt {r : List Nat} {p q : Nat} (hp : p < r.length) (hq : q < r.length) : MR r p q ↔ r.getD p 0 = r.getD q 0 := by
  unfold MR
  constructor
  · rintro (rfl | h)
    · rfl
    · exact h.2.2
  · exact fun h => .inr ⟨hp, hq, h⟩
section
variable {ts : List Th} {as : List An} {M : Nat → Nat → Prop} {L : List (List Nat)} {rs : List Nat}
theorem row_of (hts : ∀ t ∈ ts, t.ok ts.length) (hw : ∀ i, i < ts.length → ∀ p ∈ (thg ts i).pts, p < ts.length) (P : Poss ts M) : ∃ r ∈ dvs ts.length, Poss ts (MR r) ∧ ∀ p q, p < ts.length → q < ts.length → (MR r p q ↔ M p q) := by
  obtain ⟨r, hr, h⟩ := dvs_ex P.rf P.sy P.tr ts.length
  have hl := (dvs_len hr).1
  have hm : ∀ p q, p < ts.length → q < ts.length → (MR r p q ↔ M p q) := fun p q hp hq => by
    rw [MR_lt (by omega) (by omega)]; exact h p q hp hq
  refine ⟨r, hr, ⟨fun p => .inl rfl, ?_, ?_, ?_, ?_⟩, hm⟩
  · rintro p q (rfl | ⟨h1, h2, h3⟩)
    · exact .inl rfl
    · exact .inr ⟨h2, h1, h3.symm⟩
  · rintro p q s (rfl | ⟨h1, h2, h3⟩) h4
    · exact h4
    · rcases h4 with rfl | ⟨h5, h6, h7⟩
      · exact .inr ⟨h1, h2, h3⟩
      · exact .inr ⟨h1, h6, h3.trans h7⟩
  · exact fun hp hq k => P.like hp hq ((hm _ _ hp hq).mp k)
  · intro p q hp hq k i x y hx hy
    exact (hm x y (hw p hp x (List.mem_of_getElem? hx)) (hw q hq y (List.mem_of_getElem? hy))).mpr (P.part hp hq ((hm p q hp hq).mp k) i x y hx hy)
/-- the rows that agree with the answers -/
def RowsOk (ts : List Th) (as : List An) (L : List (List Nat)) : Prop := ∀ r, r ∈ L ↔ (r ∈ dvs ts.length ∧ Poss ts (MR r) ∧ Yes as (MR r) ∧ No as (MR r))
theorem yes_of {N : Nat → Nat → Prop} (hab : ∀ x ∈ as, x.a < ts.length ∧ x.b < ts.length) (h : ∀ p q, p < ts.length → q < ts.length → (N p q ↔ M p q)) (Y : Yes as M) : Yes as N := fun x hx ht => (h _ _ (hab x hx).1 (hab x hx).2).mpr (Y x hx ht)
theorem no_of {N : Nat → Nat → Prop} (hab : ∀ x ∈ as, x.a < ts.length ∧ x.b < ts.length) (h : ∀ p q, p < ts.length → q < ts.length → (N p q ↔ M p q)) (Y : No as M) : No as N := fun x hx ht k => Y x hx ht ((h _ _ (hab x hx).1 (hab x hx).2).mp k)
theorem row_in (H : RowsOk ts as L) (hts : ∀ t ∈ ts, t.ok ts.length) (hw : ∀ i, i < ts.length → ∀ p ∈ (thg ts i).pts, p < ts.length) (hab : ∀ x ∈ as, x.a < ts.length ∧ x.b < ts.length) (P : Poss ts M) (Y : Yes as M) (N : No as M) : ∃ r ∈ L, ∀ p q, p < ts.length → q < ts.length → (r.getD p 0 = r.getD q 0 ↔ M p q) := by
  obtain ⟨r, hr, h1, h2⟩ := row_of hts hw P
  have hl := (dvs_len hr).1
  exact ⟨r, (H r).mpr ⟨hr, h1, yes_of hab h2 Y, no_of hab h2 N⟩, fun p q hp hq => by rw [← MR_lt (by omega) (by omega)]; exact h2 p q hp hq⟩
theorem rows_one (H : RowsOk ts as L) (hts : ∀ t ∈ ts, t.ok ts.length) (hw : ∀ i, i < ts.length → ∀ p ∈ (thg ts i).pts, p < ts.length) (hab : ∀ x ∈ as, x.a < ts.length ∧ x.b < ts.length) (P : Poss ts (One rs)) (Y : Yes as (One rs)) (N : No as (One rs)) (least : ∀ M, Poss ts M → Yes as M → ∀ p q, One rs p q → M p q) {i j : Nat} (hi : i < ts.length) (hj : j < ts.length) : (∀ r ∈ L, r.getD i 0 = r.getD j 0) ↔ One rs i j := by
  constructor
  · intro h
    obtain ⟨r, hr, h2⟩ := row_in H hts hw hab P Y N
    exact (h2 i j hi hj).mp (h r hr)
  · intro h r hr
    obtain ⟨h1, h2, h3, _⟩ := (H r).mp hr
    have hl := (dvs_len h1).1
    exact (MR_lt (by omega) (by omega)).mp (least _ h2 h3 i j h)
theorem yes_snoc {x : An} : Yes (as ++ [x]) M ↔ Yes as M ∧ (x.t = 1 → M x.a x.b) := by
  constructor
  · exact fun h => ⟨fun y hy => h y (List.mem_append_left _ hy), h x (List.mem_append_right _ (List.mem_singleton.mpr rfl))⟩
  · rintro ⟨h1, h2⟩ y hy
    rcases List.mem_append.mp hy with hy | hy
    · exact h1 y hy
    · cases List.mem_singleton.mp hy; exact h2
theorem no_snoc {x : An} : No (as ++ [x]) M ↔ No as M ∧ (x.t = 0 → ¬ M x.a x.b) := by
  constructor
  · exact fun h => ⟨fun y hy => h y (List.mem_append_left _ hy), h x (List.mem_append_right _ (List.mem_singleton.mpr rfl))⟩
  · rintro ⟨h1, h2⟩ y hy
    rcases List.mem_append.mp hy with hy | hy
    · exact h1 y hy
    · cases List.mem_singleton.mp hy; exact h2
theorem beq_iff2 {a b : Prop} [Decidable a] [Decidable b] : ((decide a == decide b) = true) ↔ (a ↔ b) := by
  by_cases ha : a <;> by_cases hb : b <;> simp [ha, hb]
theorem left_ok (H : RowsOk ts as L) {i j : Nat} {z : Int} (h01 : z = 0 ∨ z = 1) (hi : i < ts.length) (hj : j < ts.length) : RowsOk ts (as ++ [⟨i, j, z⟩]) (L.filter fun r => decide (r.getD i 0 = r.getD j 0) == decide (z = 1)) := by
  intro r
  rw [List.mem_filter, H r, yes_snoc, no_snoc]
  constructor
  · rintro ⟨⟨h1, h2, h3, h4⟩, h5⟩
    have hl := (dvs_len h1).1
    have hm := MR_lt (r := r) (p := i) (q := j) (by omega) (by omega)
    have h5 := beq_iff2.mp h5
    refine ⟨h1, h2, ⟨h3, fun e => hm.mpr (h5.mpr e)⟩, h4, fun e k => ?_⟩
    have e : z = 0 := e
    have := h5.mp (hm.mp k)
    omega
  · rintro ⟨h1, h2, ⟨h3, h5⟩, h4, h6⟩
    have hl := (dvs_len h1).1
    have hm := MR_lt (r := r) (p := i) (q := j) (by omega) (by omega)
    refine ⟨⟨h1, h2, h3, h4⟩, ?_⟩
    rcases h01 with rfl | rfl
    · have : ¬ (r.getD i 0 = r.getD j 0) := fun k => h6 rfl (hm.mpr k)
      rw [decide_eq_false this]; rfl
    · have : r.getD i 0 = r.getD j 0 := hm.mp (h5 rfl)
      rw [decide_eq_true this]; rfl
theorem rows_ag (H : RowsOk ts as L) (hts : ∀ t ∈ ts, t.ok ts.length) (hw : ∀ i, i < ts.length → ∀ p ∈ (thg ts i).pts, p < ts.length) (hab : ∀ x ∈ as, x.a < ts.length ∧ x.b < ts.length) : L ≠ [] ↔ Ag ts as := by
  constructor
  · intro h
    obtain ⟨r, hr⟩ := List.exists_mem_of_ne_nil L h
    obtain ⟨_, h2, h3, h4⟩ := (H r).mp hr
    exact ⟨_, h2, h3, h4⟩
  · rintro ⟨M, P, Y, N⟩ e
    obtain ⟨r, hr, _⟩ := row_in H hts hw hab P Y N
    rw [e] at hr
    cases hr
theorem any_ag (H : RowsOk ts as L) (hts : ∀ t ∈ ts, t.ok ts.length) (hw : ∀ i, i < ts.length → ∀ p ∈ (thg ts i).pts, p < ts.length) (hab : ∀ x ∈ as, x.a < ts.length ∧ x.b < ts.length) {i j : Nat} (hi : i < ts.length) (hj : j < ts.length) : (∃ r ∈ L, r.getD i 0 = r.getD j 0) ↔ Ag ts (as ++ [⟨j, i, 1⟩]) := by
  have H2 := left_ok H (z := 1) (.inr rfl) hj hi
  have hab2 : ∀ x ∈ as ++ [(⟨j, i, 1⟩ : An)], x.a < ts.length ∧ x.b < ts.length := fun x hx => by
    rcases List.mem_append.mp hx with k | k
    · exact hab x k
    · cases List.mem_singleton.mp k; exact ⟨hj, hi⟩
  rw [← rows_ag H2 hts hw hab2]
  constructor
  · rintro ⟨r, hr, h⟩ e
    have : r ∈ L.filter fun r => decide (r.getD j 0 = r.getD i 0) == decide ((1 : Int) = 1) := List.mem_filter.mpr ⟨hr, by rw [decide_eq_true h.symm]; rfl⟩
    rw [e] at this
    cases this
  · intro h
    obtain ⟨r, hr⟩ := List.exists_mem_of_ne_nil _ h
    obtain ⟨h1, h2⟩ := List.mem_filter.mp hr
    exact ⟨r, h1, ((beq_iff2.mp h2).mpr rfl).symm⟩
end
end Rf
set_option Elab.async false
set_option linter.all false
set_option maxRecDepth 100000
set_option maxHeartbeats 0
namespace Rf
open PySem PySem.Spec PyProof.Rows L2 TL Rf
open Lw
/-- two things are well divided by a row -/
def okPr (ts : List Th) (r : List Nat) (i j : Nat) : Bool := !(decide (r.getD i 0 = r.getD j 0)) || (!(unlB ts i j) && ((thg ts i).pts.zip (thg ts j).pts).all fun p => decide (r.getD p.1 0 = r.getD p.2 0))
def possB (ts : List Th) (r : List Nat) : Bool := (List.range ts.length).all fun i => (List.range i).all fun j => okPr ts r i j
theorem possB_no {ts : List Th} {r : List Nat} {i j : Nat} (hi : i < ts.length) (hj : j < i) (h : okPr ts r i j = false) : possB ts r = false := by
  unfold possB
  rw [List.all_eq_false]
  refine ⟨i, List.mem_range.mpr hi, ?_⟩
  rw [Bool.not_eq_true, List.all_eq_false]
  exact ⟨j, List.mem_range.mpr hj, by rw [h]; exact Bool.false_ne_true⟩
theorem possB_yes {ts : List Th} {r : List Nat} (h : ∀ i j, i < ts.length → j < i → okPr ts r i j = true) : possB ts r = true := by
  unfold possB
  rw [List.all_eq_true]
  intro i hi
  rw [List.all_eq_true]
  exact fun j hj => h i j (List.mem_range.mp hi) (List.mem_range.mp hj)
section
variable {S : Sto} {ts : List Th} {r : List Nat}
theorem row_at {t : Nat} (h : t < r.length) : oIx (.lst (r.map nD)) (nD t) = some (nD (r.getD t 0)) := atI_some (by rw [List.getElem?_map, some_getD h]; rfl)
theorem possB_iff (hts : ∀ t ∈ ts, t.ok ts.length) (hr : r.length = ts.length) : possB ts r = true ↔ Poss ts (MR r) := by
  have hpts : ∀ i, i < ts.length → ∀ p ∈ (thg ts i).pts, p < ts.length := fun i hi y hy => Th.ok_pts hts i hi y hy
  constructor
  · intro h
    have hk : ∀ i j, i < ts.length → j < i → okPr ts r i j = true := fun i j hi hj => by
      cases hb : okPr ts r i j with
      | true => rfl
      | false => rw [possB_no hi hj hb] at h; cases h
    have key : ∀ i j, i < ts.length → j < i → r.getD i 0 = r.getD j 0 → unlB ts i j = false ∧ ∀ p ∈ (thg ts i).pts.zip (thg ts j).pts, r.getD p.1 0 = r.getD p.2 0 := fun i j hi hj e => by
      have := hk i j hi hj
      unfold okPr at this
      rw [decide_eq_true e] at this
      simp only [Bool.not_true, Bool.false_or, Bool.and_eq_true, Bool.not_eq_true', List.all_eq_true, decide_eq_true_eq] at this
      exact this
    refine ⟨fun p => .inl rfl, ?_, ?_, ?_, ?_⟩
    · rintro p q (rfl | ⟨h1, h2, h3⟩)
      · exact .inl rfl
      · exact .inr ⟨h2, h1, h3.symm⟩
    · rintro p q s (rfl | ⟨h1, h2, h3⟩) h4
      · exact h4
      · rcases h4 with rfl | ⟨h5, h6, h7⟩
        · exact .inr ⟨h1, h2, h3⟩
        · exact .inr ⟨h1, h6, h3.trans h7⟩
    · intro p q hp hq hm
      rw [MR_lt (by omega) (by omega)] at hm
      rcases Nat.lt_trichotomy p q with h1 | rfl | h1
      · rw [unlB_sy]; exact (key q p hq h1 hm.symm).1
      · exact unlB_rf ts p
      · exact (key p q hp h1 hm).1
    · intro p q hp hq hm i x y hx hy
      rw [MR_lt (by omega) (by omega)] at hm
      have hx2 := hpts p hp x (List.mem_of_getElem? hx)
      have hy2 := hpts q hq y (List.mem_of_getElem? hy)
      rcases Nat.lt_trichotomy p q with h1 | rfl | h1
      · refine .inr ⟨by omega, by omega, ((key q p hq h1 hm.symm).2 (y, x) ?_).symm⟩
        exact List.mem_of_getElem? (List.getElem?_zip_eq_some.mpr ⟨hy, hx⟩)
      · rw [hx] at hy; cases hy; exact .inl rfl
      · refine .inr ⟨by omega, by omega, (key p q hp h1 hm).2 (x, y) ?_⟩
        exact List.mem_of_getElem? (List.getElem?_zip_eq_some.mpr ⟨hx, hy⟩)
  · intro P
    refine possB_yes fun i j hi hj => ?_
    unfold okPr
    by_cases e : r.getD i 0 = r.getD j 0
    · have hm : MR r i j := (MR_lt (by omega) (by omega)).mpr e
      rw [decide_eq_true e, P.like hi (by omega) hm]
      simp only [Bool.not_true, Bool.false_or, Bool.not_false, Bool.true_and, List.all_eq_true, decide_eq_true_eq]
      intro p hp
      obtain ⟨k, hk⟩ := List.getElem?_of_mem hp
      obtain ⟨h1, h2⟩ := List.getElem?_zip_eq_some.mp hk
      have h3 := P.part hi (by omega) hm k _ _ h1 h2
      have h4 := hpts i hi _ (List.mem_of_getElem? h1)
      have h5 := hpts j (by omega) _ (List.mem_of_getElem? h2)
      exact (MR_lt (by omega) (by omega)).mp h3
    · rw [decide_eq_false e]; rfl
section
local macro_rules | `(tactic| walk_at "rf") => `(tactic| first | ((with_reducible refine anG ?_); ((with_reducible refine And.intro ?_ ?_); exact Nat.le_of_ble_eq_true rfl)) | (with_reducible exact rfl) | fail)
local macro_rules | `(tactic| walk_at "rf") => `(tactic| first | ((with_reducible refine anG ?_); ((with_reducible refine r_dec (fun ht => ?_) (fun ht => ?_)) <;> first | (exfalso; omega) | skip)) | ((with_reducible refine anG ?_); ((with_reducible refine And.intro ?_ ?_); exact rfl)) | fail)
local macro_rules | `(tactic| walk_at "rf") => `(tactic| first | ((with_reducible refine anG ?_); ((with_reducible apply r_isT); (· first | with_reducible assumption | exact rfl))) | ((with_reducible refine anG ?_); ((with_reducible apply r_isF); (· first | with_reducible assumption | exact rfl))) | fail)
local macro_rules | `(tactic| walk_at "rf") => `(tactic| first | ((with_reducible refine exG ?_); (with_reducible refine g_op ?_)) | ((with_reducible refine exG ?_); ((with_reducible apply Exists.intro); (fail_if_success (with_reducible refine g_og ?_ ?_)); (fail_if_success (with_reducible refine repG ?_)); (repeat (with_reducible apply Exists.intro)); refine And.intro rfl ?_)) | fail)
local macro_rules | `(tactic| walk_at "rf") => `(tactic| first | ((with_reducible refine wsG ?_); (with_reducible refine Ws.imp ?_)) | ((with_reducible refine exG ?_); ((with_reducible apply g_rng1); (· exact rfl); (· constructor <;> omega))) | fail)
local macro_rules | `(tactic| walk_at "rf") => `(tactic| first | ((with_reducible refine lsG ?_); (intro L' hL'; (try simp only [List.set_cons_zero, List.set_cons_succ] at hL'); subst hL')) | ((with_reducible refine wpG ?_); (with_reducible refine Wp.imp ?_)) | fail)
local macro_rules | `(tactic| walk_at "rf") => `(tactic| first | ((with_reducible apply wp.eq); (· with_reducible assumption)) | (with_reducible refine stopL_in ?_) | fail)
local macro_rules | `(tactic| walk_at "rf") => `(tactic| first | ((with_reducible apply g_b2); (· with_reducible assumption); (· first | with_reducible assumption | rfl); (· first | with_reducible assumption | rfl)) | ((with_reducible apply g_c1); (· with_reducible assumption); (· first | with_reducible assumption | rfl)) | fail)
theorem possible_ok (hts : ∀ t ∈ ts, t.ok ts.length) (hn : ts.length < 64) (hP3 : ∀ i, (thg ts i).pts.length ≤ 3) (hr : r.length = ts.length) :
    @wp noXP _ (c__law_possible [.tup (ts.map Th.d), .lst (r.map nD)] S) fun d S' => Iv (S' = S ∧ d = .bl (possB ts r)) := by
  have big : 100000 < sizeLine := by decide
  have hlm : (ts.map Th.d).length < 1000 := by rw [List.length_map]; omega
  apply u__law_possible
  generalize hrw : r.map nD = row
  repeat' walk_at "rf"
  rw [List.length_map]
  unfold stopL
  refine wps_rng (fun c m L S' => Iv (∃ (i : Nat) (z2 z3 z4 z5 z6 : LV), c = (i : Int) ∧ i + m = ts.length ∧ L = [.v (.tup (ts.map Th.d)), .v (.lst row), z2, z3, z4, z5, z6] ∧ S' = S ∧ ∀ i' j', i' < i → j' < i' → okPr ts r i' j' = true)) ?_ ?_ 0 _ _ _ ⟨0, _, _, _, _, _, rfl, by simp, rfl, rfl, fun i' j' h => by omega⟩
  · rintro c m L S' ⟨i, z2, z3, z4, z5, z6, rfl, him, rfl, rfl, hall⟩
    refine tgX _ rfl ?_
    have hi : i < ts.length := by omega
    repeat' walk_at "rf"
    unfold stopL
    refine wps_rng (fun c m L S2 => Iv (∃ (j : Nat) (z3 z4 z5 z6 : LV), c = (j : Int) ∧ j + m = i ∧ L = [.v (.tup (ts.map Th.d)), .v (.lst row), .v (nD i), z3, z4, z5, z6] ∧ S2 = S' ∧ ∀ j', j' < j → okPr ts r i j' = true)) ?_ ?_ 0 _ _ _ ⟨0, _, _, _, _, rfl, by simp, rfl, rfl, fun j' h => by omega⟩
    · rintro c m L S2 ⟨j, z3, z4, z5, z6, rfl, hjm, rfl, rfl, hal2⟩
      refine tgX _ rfl ?_
      have hj2 : j < ts.length := by omega
      have e1 : oIx (.lst row) (nD i) = some (nD (r.getD i 0)) := by rw [← hrw]; exact row_at (by omega)
      have e2 : oIx (.lst row) (nD j) = some (nD (r.getD j 0)) := by rw [← hrw]; exact row_at (by omega)
      have e3 := lcan_eq (S := S2) hts hi hj2
      have e4 : oIx (.tup (ts.map Th.d)) (nD i) = some (thg ts i).d := oIx_map hi .row
      have e5 : oIx (.tup (ts.map Th.d)) (nD j) = some (thg ts j).d := oIx_map hj2 .row
      have hstep : okPr ts r i j = true → ∀ j', j' < j + 1 → okPr ts r i j' = true := fun h j' hj' => by
        by_cases e : j' = j
        · subst e; exact h
        · exact hal2 j' (by omega)
      have hno : okPr ts r i j = false → possB ts r = false := possB_no hi (by omega)
      have hdef : okPr ts r i j = (!(decide (r.getD i 0 = r.getD j 0)) || (!(unlB ts i j) && ((thg ts i).pts.zip (thg ts j).pts).all fun p => decide (r.getD p.1 0 = r.getD p.2 0))) := rfl
      generalize r.getD i 0 = u at e1 hdef
      generalize r.getD j 0 = v at e2 hdef
      by_cases huv : u = v
      · subst huv
        rw [decide_eq_true rfl, Bool.not_true, Bool.false_or] at hdef
        cases hu : unlB ts i j with
        | true =>
          rw [hu] at e3 hdef
          have hno := hno hdef
          repeat' walk_at "rf"
          show Iv _
          exact ⟨rfl, congrArg D.bl hno.symm⟩
        | false =>
          rw [hu] at e3 hdef
          rcases th2 (thg ts i) with ⟨ps, hT⟩ | ⟨hT, z, rr, hd, hzn⟩
          · obtain ⟨qs, hU⟩ : ∃ qs, thg ts j = .tup qs := by
              have h9 : unl2 (thg ts i) (thg ts j) = false := by
                unfold unlB at hu
                rw [if_neg (by omega)] at hu
                exact hu
              rw [hT] at h9
              cases h8 : thg ts j with
              | tup qs => exact ⟨qs, rfl⟩
              | _ => rw [h8] at h9; cases h9
            have hpi : ∀ y ∈ ps, y < ts.length := fun y hy => Th.ok_pts hts i hi y (by rw [hT]; exact hy)
            have hqi : ∀ y ∈ qs, y < ts.length := fun y hy => Th.ok_pts hts j hj2 y (by rw [hU]; exact hy)
            have hpl : (ps.zip qs).length ≤ sizeLine := by
              rw [List.length_zip]
              have h1 := hP3 i
              rw [hT] at h1
              have h2 : ps.length ≤ 3 := h1
              omega
            have hdef : okPr ts r i j = (ps.zip qs).all fun p => decide (r.getD p.1 0 = r.getD p.2 0) := by rw [hdef, hT, hU]; rfl
            rw [hT] at e4
            rw [hU] at e5
            repeat' walk_at "rf"
            rw [pairI_nd]
            refine wp.eq (lc_eq (f := fun p : Nat × Nat => D.tup [nD p.1, nD p.2]) (g := fun p : Nat × Nat => D.tup [nD p.1, nD p.2]) (ps.zip qs) (fun p _ => ⟨_, rfl, rfl, ok_of ?_⟩) hpl) ?_
            · repeat' walk_at "rf"
            · repeat' walk_at "rf"
              refine wp.eq (lc_eq (f := fun p : Nat × Nat => D.tup [nD p.1, nD p.2]) (g := fun p : Nat × Nat => D.bl (decide (r.getD p.1 0 = r.getD p.2 0))) (ps.zip qs) (fun p hp => ⟨_, rfl, rfl, ok_of ?_⟩) hpl) ?_
              · have g1 : oIx (.lst row) (nD p.1) = some (nD (r.getD p.1 0)) := by rw [← hrw]; exact row_at (by have := hpi _ (List.of_mem_zip hp).1; omega)
                have g2 : oIx (.lst row) (nD p.2) = some (nD (r.getD p.2 0)) := by rw [← hrw]; exact row_at (by have := hqi _ (List.of_mem_zip hp).2; omega)
                generalize r.getD p.1 0 = w at g1
                generalize r.getD p.2 0 = w2 at g2
                repeat' walk_at "rf"
                exact ⟨congrArg D.bl (decide_eq_decide.mpr Int.ofNat_inj), rfl⟩
              · have g3 := all_bls (fun p : Nat × Nat => decide (r.getD p.1 0 = r.getD p.2 0)) (ps.zip qs)
                rw [← hdef] at g3
                cases hb : okPr ts r i j with
                | true =>
                  rw [hb] at g3
                  repeat' walk_at "rf"
                  show Iv _
                  exact ⟨j + 1, _, _, _, _, by omega, by omega, rfl, rfl, hstep hb⟩
                | false =>
                  rw [hb] at g3
                  repeat' walk_at "rf"
                  show Iv _
                  exact ⟨rfl, congrArg D.bl (hno hb).symm⟩
          · have hdef : okPr ts r i j = true := by rw [hdef, hT]; rfl
            rw [hd] at e4
            repeat' walk_at "rf"
            · rename_i h9
              exact absurd h9 hzn
            · show Iv _
              exact ⟨j + 1, _, _, _, _, by omega, by omega, rfl, rfl, hstep hdef⟩
      · rw [decide_eq_false huv] at hdef
        repeat' walk_at "rf"
        show Iv _
        exact ⟨j + 1, _, _, _, _, by omega, by omega, rfl, rfl, hstep hdef⟩
    · rintro c L S2 ⟨j, z3, z4, z5, z6, rfl, hjm, rfl, rfl, hal2⟩
      repeat' walk_at "rf"
      show Iv _
      refine ⟨i + 1, _, _, _, _, _, by omega, by omega, rfl, rfl, fun i' j' h1 h2 => ?_⟩
      by_cases e : i' = i
      · subst e; exact hal2 j' (by omega)
      · exact hall i' j' (by omega) h2
  · rintro c L S' ⟨i, z2, z3, z4, z5, z6, rfl, him, rfl, rfl, hall⟩
    repeat' walk_at "rf"
    show Iv _
    exact ⟨rfl, congrArg D.bl (possB_yes fun i' j' h1 h2 => hall i' j' (by omega) h2).symm⟩
end
end
end Rf
set_option Elab.async false
set_option linter.all false
set_option maxRecDepth 100000
set_option maxHeartbeats 0
namespace Rf
open PySem PySem.Spec PyProof.Rows L2 TL Rf
open Lw
abbrev rowD (r : List Nat) : D := .lst (r.map nD)
theorem mx_in : ∀ (r : List Nat) (a : Nat), r.foldl (fun m x => max m (x + 1)) a = a ∨ ∃ x ∈ r, r.foldl (fun m x => max m (x + 1)) a = x + 1
  | [], a => .inl rfl
  | y :: r, a => by
    rcases mx_in r (max a (y + 1)) with h | ⟨x, hx, h⟩
    · rcases Nat.le_total a (y + 1) with k | k
      · exact .inr ⟨y, .head _, by show r.foldl _ (max a (y + 1)) = _; rw [h, Nat.max_eq_right k]⟩
      · exact .inl (by show r.foldl _ (max a (y + 1)) = _; rw [h, Nat.max_eq_left k])
    · exact .inr ⟨x, .tail _ hx, h⟩
theorem isI_nat : ∀ (r : List Nat) (e : List Int), isI (r.map nD ++ e.map D.int) = some (r.map (fun n : Nat => (n : Int)) ++ e)
  | [], [] => rfl
  | [], e :: es => by
    have := isI_nat [] es
    simp only [List.map_nil, List.nil_append] at this
    simp only [List.map_nil, List.nil_append, List.map_cons]
    rw [isI, this]
    rfl
  | n :: r, e => by
    rw [List.map_cons, List.cons_append, isI, isI_nat r e]
    rfl
theorem max_row (r : List Nat) : bMaxI [.lst (r.map nD ++ [.int (-1)])] = some (.int ((mx r : Int) - 1)) := by
  have h1 : isI (r.map nD ++ [.int (-1)]) = some (r.map (fun n : Nat => (n : Int)) ++ [-1]) := isI_nat r [-1]
  obtain ⟨a, l, e⟩ : ∃ a l, r.map (fun n : Nat => (n : Int)) ++ [-1] = a :: l := by
    cases r with
    | nil => exact ⟨_, _, rfl⟩
    | cons x r => exact ⟨_, _, rfl⟩
  obtain ⟨h2, h3⟩ := maxI_ok l a
  rw [← e] at h2 h3
  have hle : maxI a l ≤ (mx r : Int) - 1 := by
    rcases List.mem_append.mp h2 with h | h
    · obtain ⟨x, hx, e2⟩ := List.mem_map.mp h
      have := lt_mx hx
      omega
    · rw [List.mem_singleton] at h
      omega
  have hge : (mx r : Int) - 1 ≤ maxI a l := by
    rcases mx_in r 0 with h | ⟨x, hx, h⟩
    · have h : mx r = 0 := h
      have := h3 (-1) (List.mem_append_right _ (List.mem_singleton.mpr rfl))
      omega
    · have h : mx r = x + 1 := h
      have := h3 (x : Int) (List.mem_append_left _ (List.mem_map.mpr ⟨x, hx, rfl⟩))
      omega
  rw [e] at h1
  show (match isI (r.map nD ++ [.int (-1)]) with
    | some (n :: l) => some (D.int (maxI n l))
    | _ => none) = _
  rw [h1]
  show some (D.int (maxI a l)) = _
  rw [show maxI a l = (mx r : Int) - 1 by omega]
def extR (r : List Nat) : List (List Nat) := (List.range (mx r + 1)).map fun m => r ++ [m]
theorem dvs_ext (n : Nat) : dvs (n + 1) = ((dvs n).map extR).flatten := rfl
theorem dvs_few : ∀ k, k ≤ 6 → (dvs k).length ≤ 203 := by decide +kernel
theorem g_mx {S : Sto} {d z : D} {Q : D → Prop} (h : bMaxI [d] = some z) (hd : deref S d = d) (k : Q z) : ∃ z, bMaxI ([d].map (deref S)) = some z ∧ Q z := by
  rw [List.map_cons, List.map_nil, hd]
  exact ⟨z, h, k⟩
section
variable {S : Sto}
section
local macro_rules | `(tactic| walk_at "rf") => `(tactic| first | ((with_reducible refine anG ?_); ((with_reducible refine And.intro ?_ ?_); exact Nat.le_of_ble_eq_true rfl)) | fail)
local macro_rules | `(tactic| walk_at "rf") => `(tactic| first | ((with_reducible refine exG ?_); ((with_reducible apply Exists.intro); (fail_if_success (with_reducible refine g_og ?_ ?_)); (fail_if_success (with_reducible refine repG ?_)); (repeat (with_reducible apply Exists.intro)); refine And.intro rfl ?_)) | ((with_reducible refine anG ?_); ((with_reducible refine And.intro ?_ ?_); (· with_reducible assumption))) | fail)
local macro_rules | `(tactic| walk_at "rf") => `(tactic| first | ((with_reducible refine exG ?_); (with_reducible refine g_op ?_)) | ((with_reducible refine exG ?_); ((with_reducible refine g_og ?_ ?_); (· first | assumption | decide | omega | exact Nat.le_of_ble_eq_true rfl | (simp only [List.length_append, List.length_map, List.length_replicate, List.length_cons, List.length_nil]; omega)))) | fail)
local macro_rules | `(tactic| walk_at "rf") => `(tactic| first | ((with_reducible refine wsG ?_); (with_reducible refine Ws.imp ?_)) | ((with_reducible refine exG ?_); ((with_reducible apply g_rng1); (· exact rfl); (· constructor <;> omega))) | fail)
local macro_rules | `(tactic| walk_at "rf") => `(tactic| first | ((with_reducible refine lsG ?_); (intro L' hL'; (try simp only [List.set_cons_zero, List.set_cons_succ] at hL'); subst hL')) | ((with_reducible refine wpG ?_); (with_reducible refine Wp.imp ?_)) | fail)
local macro_rules | `(tactic| walk_at "rf") => `(tactic| first | ((with_reducible apply g_mx); (· with_reducible assumption); (· exact rfl)) | (with_reducible refine stopL_in ?_) | fail)
theorem divs_ok {n : Nat} (hn : n ≤ 6) : @wp noXP _ (c__law_divisions [nD n] S) fun d S' => Iv (S' = S ∧ d = .lst ((dvs n).map rowD)) := by
  have big : 100000 < sizeLine := by decide
  apply u__law_divisions
  repeat' walk_at "rf"
  unfold stopL
  refine wps_rng (fun c m L S' => Iv (∃ (i : Nat) (z2 z3 z4 z5 : LV), c = (i : Int) ∧ i + m = n ∧ L = [.v (nD n), .v (.lst ((dvs i).map rowD)), z2, z3, z4, z5] ∧ S' = S)) ?_ ?_ 0 _ _ _ ⟨0, _, _, _, _, rfl, by simp, rfl, rfl⟩
  · rintro c m L S' ⟨i, z2, z3, z4, z5, rfl, him, rfl, rfl⟩
    refine tgX _ rfl ?_
    have hall := dvs_few (i + 1) (by omega)
    rw [dvs_ext] at hall
    repeat' walk_at "rf"
    unfold stopL
    refine wps_ea (f := rowD) (fun as L S2 => Iv (∃ (pre : List (List Nat)) (z4 z5 : LV), dvs i = pre ++ as ∧ L = [.v (nD n), .v (.lst ((dvs i).map rowD)), .v (nD i), .o (.lst ((pre.map extR).flatten.map rowD)), z4, z5] ∧ S2 = S')) ?_ ?_ (dvs i) _ _ ⟨[], _, _, rfl, rfl, rfl⟩
    · rintro r as L S2 ⟨pre, z4, z5, e, rfl, rfl⟩
      refine ⟨_, rfl, ?_⟩
      have hm := max_row r
      have hrl : (r.map nD).length ≤ 6 := by
        have hr : r ∈ dvs i := by rw [e]; simp
        have := (dvs_len hr).1
        rw [List.length_map]; omega
      have hrl2 : r.length ≤ 6 := by rw [List.length_map] at hrl; exact hrl
      have hmx : mx r ≤ 6 := by
        have hr : r ∈ dvs i := by rw [e]; simp
        have := (dvs_len hr).2
        omega
      have hlen : ((pre.map extR).flatten.map rowD).length + (extR r).length ≤ 203 := by
        rw [e, List.map_append, List.map_cons, List.flatten_append, List.flatten_cons, List.length_append, List.length_append] at hall
        rw [List.length_map]
        omega
      generalize hacc : (pre.map extR).flatten.map rowD = acc at hlen
      repeat' walk_at "rf"
      have hcount : ((mx r : Int) - 1 + 2).toNat = mx r + 1 := by omega
      refine lc_rng (fun j m a S3 => Iv (∃ q : Nat, j = (q : Int) ∧ q + m = mx r + 1 ∧ S3 = S2 ∧ a = ((List.range q).map fun m => rowD (r ++ [m])))) ?_ ?_ 0 _ _ [] ⟨0, rfl, by rw [hcount]; omega, rfl, rfl⟩
      · rintro j m a S3 ⟨q, rfl, hq, rfl, rfl⟩
        have hz : ((List.range q).map fun m => rowD (r ++ [m])).length < sizeLine := by rw [List.length_map, List.length_range]; omega
        refine ⟨_, rfl, r_tYs ?_⟩
        rw [if_pos rfl]
        repeat' walk_at "rf"
        refine ⟨q + 1, by omega, by omega, rfl, ?_⟩
        rw [List.range_succ, List.map_append]
        show _ = _ ++ [D.lst ((r ++ [q]).map nD)]
        rw [List.map_append]
        rfl
      · rintro j S3 a ⟨q, rfl, hq, rfl, rfl⟩
        have hq2 : q = mx r + 1 := by omega
        subst hq2
        refine ⟨_, rfl, ?_, ?_⟩
        · have : (extR r).length = mx r + 1 := by unfold extR; rw [List.length_map, List.length_range]
          rw [List.length_map, List.length_range]
          omega
        · repeat' walk_at "rf"
          have eA : acc ++ (List.range (mx r + 1)).map (fun m => rowD (r ++ [m])) = ((pre ++ [r]).map extR).flatten.map rowD := by
            rw [← hacc, List.map_append, List.flatten_append, List.map_append]
            congr 1
            rw [List.map_cons, List.map_nil, List.flatten_cons, List.flatten_nil, List.append_nil]
            unfold extR
            rw [List.map_map]
            rfl
          show Iv _
          exact ⟨pre ++ [r], _, _, by rw [e]; simp, by rw [← eA]; rfl, rfl⟩
    · rintro L S2 ⟨pre, z4, z5, e, rfl, rfl⟩
      rw [List.append_nil] at e
      rw [← e, ← dvs_ext]
      repeat' walk_at "rf"
      show Iv _
      exact ⟨i + 1, _, _, _, _, by omega, by omega, rfl, rfl⟩
  · rintro c L S' ⟨i, z2, z3, z4, z5, rfl, him, rfl, rfl⟩
    have him : i = n := by omega
    subst him
    repeat' walk_at "rf"
    show Iv _
    exact ⟨rfl, rfl⟩
end
end
end Rf
set_option Elab.async false
set_option linter.all false
set_option maxRecDepth 100000
set_option maxHeartbeats 0
namespace Rf
open PySem PySem.Spec PyProof.Rows L2 TL Rf
open Lw
def clsI (rs : List Nat) (i r : Nat) : List Nat := (List.range i).filter fun t => decide (root rs t = r)
def rtsI (rs : List Nat) (i : Nat) : List Nat := (List.range i).filter fun t => decide (root rs t = t)
def kvI (b : Nat) (rs : List Nat) (i : Nat) : DctK := (rtsI rs i).map fun r : Nat => (((.inl (r : Int) : Key), D.obj (b + r)) : Key × D)
def fL (rs : List Nat) (i t : Nat) : O := .lst ((clsI rs i t).map nD)
theorem cls_succ (rs : List Nat) (i r : Nat) : clsI rs (i + 1) r = clsI rs i r ++ (if root rs i = r then [i] else []) := by
  unfold clsI
  rw [List.range_succ, List.filter_append]
  by_cases h : root rs i = r
  · rw [if_pos h]; simp [h]
  · rw [if_neg h]; simp [h]
theorem rts_succ (rs : List Nat) (i : Nat) : rtsI rs (i + 1) = rtsI rs i ++ (if root rs i = i then [i] else []) := by
  unfold rtsI
  rw [List.range_succ, List.filter_append]
  by_cases h : root rs i = i
  · rw [if_pos h]; simp [h]
  · rw [if_neg h]; simp [h]
theorem cls_self (rs : List Nat) (i : Nat) : clsI rs i i = [] := by
  unfold clsI
  rw [List.filter_eq_nil_iff]
  intro t ht h
  have h1 := List.mem_range.mp ht
  have h2 := root_le rs t
  have h3 := of_decide_eq_true h
  omega
theorem set_mapR {α : Type} (g : Nat → α) (n r : Nat) (X : α) : ((List.range n).map g).set r X = (List.range n).map fun t => if t = r then X else g t := by
  apply List.ext_getElem
  · simp
  · intro t h1 h2
    rw [List.getElem_set, List.getElem_map, List.getElem_map, List.getElem_range]
    by_cases h : r = t
    · rw [if_pos h, if_pos h.symm]
    · rw [if_neg h, if_neg (Ne.symm h)]
theorem lists_step (rs : List Nat) (i : Nat) : ((List.range i).map (fL rs i) ++ [O.lst []]).set (root rs i) (O.lst ((clsI rs i (root rs i) ++ [i]).map nD)) = (List.range (i + 1)).map (fL rs (i + 1)) := by
  have h1 : (List.range i).map (fL rs i) ++ [O.lst []] = (List.range (i + 1)).map (fL rs i) := by
    rw [List.range_succ, List.map_append]
    show _ = _ ++ [O.lst ((clsI rs i i).map nD)]
    rw [cls_self]
    rfl
  rw [h1, set_mapR]
  refine List.map_congr_left fun t _ => ?_
  unfold fL
  rw [cls_succ]
  by_cases h : t = root rs i
  · subst h
    rw [if_pos rfl, if_pos rfl]
  · rw [if_neg h, if_neg (Ne.symm h), List.append_nil]
theorem kv_get (b q : Nat) : ∀ xs : List Nat, dGetK (xs.map fun r : Nat => (((.inl (r : Int) : Key), D.obj (b + r)) : Key × D)) (.inl (q : Int)) = if q ∈ xs then some (.obj (b + q)) else none
  | [] => rfl
  | x :: xs => by
    have ih := kv_get b q xs
    unfold dGetK at ih ⊢
    rw [List.map_cons, List.find?_cons]
    by_cases h : x = q
    · subst h
      rw [decide_eq_true rfl, if_pos (.head _)]
      rfl
    · have h1 : decide ((Sum.inl (x : Int) : Key) = Sum.inl (q : Int)) = false := decide_eq_false fun e => h (Int.ofNat.inj (Sum.inl.inj e))
      show Option.map _ (match decide ((Sum.inl (x : Int) : Key) = Sum.inl (q : Int)) with | true => _ | false => _) = _
      rw [h1]
      show Option.map _ (List.find? _ _) = _
      rw [ih]
      by_cases h2 : q ∈ xs
      · rw [if_pos h2, if_pos (.tail _ h2)]
      · rw [if_neg h2, if_neg fun h3 => ?_]
        rcases List.mem_cons.mp h3 with h4 | h4
        · exact h h4.symm
        · exact h2 h4
section
variable {S : Sto} {o l a r e : Nat} {ts : List Th} {as : List An} {rs : List Nat} {es : List Ed}
abbrev stI (S : Sto) (rs : List Nat) (i : Nat) : Sto := S ++ .dK (kvI (S.length + 1) rs i) :: (List.range i).map (fL rs i)
theorem stI_at (S : Sto) (rs : List Nat) (i : Nat) : (stI S rs i)[S.length]? = some (.dK (kvI (S.length + 1) rs i)) := atk0 rfl
theorem range_fL (rs : List Nat) (i : Nat) : (List.range i).map (fL rs i) ++ [O.lst []] = (List.range (i + 1)).map (fL rs i) := by
  rw [List.range_succ, List.map_append]
  show _ = _ ++ [O.lst ((clsI rs i i).map nD)]
  rw [cls_self]
  rfl
theorem at_cls (S : Sto) (rs : List Nat) {i r : Nat} {kv : DctK} (h : r ≤ i) : (S ++ O.dK kv :: (List.range (i + 1)).map (fL rs i))[S.length + 1 + r]? = some (.lst ((clsI rs i r).map nD)) := by
  rw [show S.length + 1 + r = S.length + (r + 1) by omega]
  refine atk ?_
  rw [List.getElem?_cons_succ, List.getElem?_map, List.getElem?_range (by omega)]
  rfl
theorem st_step (S : Sto) (rs : List Nat) (i : Nat) (kv : DctK) : (S ++ O.dK kv :: (List.range (i + 1)).map (fL rs i)).set (S.length + 1 + root rs i) (O.lst ((clsI rs i (root rs i)).map nD ++ [nD i])) = S ++ O.dK kv :: (List.range (i + 1)).map (fL rs (i + 1)) := by
  rw [show S.length + 1 + root rs i = S.length + (root rs i + 1) by omega, setk, List.set_cons_succ, ← range_fL, show (clsI rs i (root rs i)).map nD ++ [nD i] = (clsI rs i (root rs i) ++ [i]).map nD by rw [List.map_append]; rfl, lists_step]
theorem putK_new {kvs : DctK} {q : Key} {d : D} (h : dGetK kvs q = none) : dPutK kvs q d = kvs ++ [(q, d)] := by
  unfold dPutK
  rw [if_neg]
  intro hh
  obtain ⟨kv, h1, h2⟩ := List.any_eq_true.mp hh
  unfold dGetK at h
  rw [Option.map_eq_none_iff, List.find?_eq_none] at h
  exact h kv h1 h2
theorem inKs_kv (b : Nat) (rs : List Nat) (i : Nat) : inKs (kvI b rs i) = some ((rtsI rs i).map fun r : Nat => (r : Int)) := by
  unfold kvI
  generalize rtsI rs i = xs
  induction xs with
  | nil => rfl
  | cons x xs ih =>
    show (inKs (xs.map _)).map _ = _
    rw [ih]
    rfl
theorem srt_rts (rs : List Nat) (i : Nat) : srtI ((rtsI rs i).map fun r : Nat => (r : Int)) = (rtsI rs i).map fun r : Nat => (r : Int) := by
  refine (srtI_uniq (srtI_perm _).symm ?_ (srtI_pw _)).symm
  refine List.pairwise_map.mpr ?_
  unfold rtsI
  refine List.Pairwise.filter _ ?_
  exact (List.pairwise_lt_range (n := i)).imp fun h => Int.ofNat_le.mpr (Nat.le_of_lt h)
theorem g_lk {S : Sto} {o : D} {r : Option D} {Q : Prop} (h : dLook S o (.int 0) = some r) (k : Q) : (∃ r, dLook S o (.int 0) = some r) ∧ Q := ⟨⟨r, h⟩, k⟩
section
local macro_rules | `(tactic| walk_at "rf") => `(tactic| first | ((with_reducible refine anG ?_); ((with_reducible refine And.intro ?_ ?_); exact Nat.le_of_ble_eq_true rfl)) | (with_reducible exact rfl) | fail)
local macro_rules | `(tactic| walk_at "rf") => `(tactic| first | ((with_reducible refine anG ?_); ((with_reducible refine And.intro ?_ ?_); exact rfl)) | ((with_reducible refine anG ?_); ((with_reducible refine And.intro ?_ ?_); (· with_reducible assumption))) | fail)
local macro_rules | `(tactic| walk_at "rf") => `(tactic| first | ((with_reducible refine exG ?_); ((with_reducible apply g_rng1); (· exact rfl); (· constructor <;> omega))) | ((with_reducible refine exG ?_); ((with_reducible apply Exists.intro); (fail_if_success (with_reducible refine g_og ?_ ?_)); (fail_if_success (with_reducible refine repG ?_)); (repeat (with_reducible apply Exists.intro)); refine And.intro rfl ?_)) | fail)
local macro_rules | `(tactic| walk_at "rf") => `(tactic| first | ((with_reducible refine stG ?_); (intro S' hS'; (try simp only [List.cons_append, List.nil_append, List.set_cons_zero, List.set_cons_succ] at hS'); subst hS')) | ((with_reducible refine ntG ?_); (intro n hn; (try simp only [List.length_cons, List.length_nil, Nat.zero_add, Nat.reduceAdd] at hn); subst hn)) | fail)
local macro_rules | `(tactic| walk_at "rf") => `(tactic| first | ((with_reducible refine wpG ?_); (with_reducible refine Wp.imp ?_)) | ((with_reducible refine wsG ?_); (with_reducible refine Ws.imp ?_)) | fail)
local macro_rules | `(tactic| walk_at "rf") => `(tactic| first | (with_reducible refine stopL_in ?_) | ((with_reducible refine lsG ?_); (intro L' hL'; (try simp only [List.set_cons_zero, List.set_cons_succ] at hL'); subst hL')) | fail)
local macro_rules | `(tactic| walk_at "rf") => `(tactic| first | ((with_reducible apply g_dr1X); (· with_reducible assumption); (· with_reducible assumption)) | ((with_reducible apply wp.eq); (· with_reducible assumption)) | fail)
local macro_rules | `(tactic| walk_at "rf") => `(tactic| first | (with_reducible refine And.intro (List.mem_singleton.mpr rfl) ?_) | ((with_reducible apply Exists.intro); (with_reducible refine And.intro ?_ ?_); (· with_reducible assumption)) | fail)
local macro_rules | `(tactic| walk_at "rf") => `(tactic| first | ((with_reducible apply g_lk); (· with_reducible assumption)) | ((with_reducible apply g_ins); (· with_reducible assumption)) | fail)
theorem classes_ok (A : SmA S o l a r e ts as rs es) (R : RsOk rs ts.length) (hn : ts.length < 64) : @wp noXP _ (c_Sameness_classes [.obj o] S) fun d S' => Iv (d = .tup ((rtsI rs ts.length).map fun r => D.tup ((clsI rs ts.length r).map nD)) ∧ ∃ G, S' = S ++ G) := by
  have big : 100000 < sizeLine := by decide
  have hi := A.i
  have hl := A.l
  have hlen : bLen [.lst (ts.map Th.d)] = some (nD ts.length) := by
    show some (D.int (ts.map Th.d).length) = _
    rw [List.length_map]
  apply u_Sameness_classes
  repeat' walk_at "rf"
  have A1 := A.pre [.dK []]
  have hi1 := A1.i
  have hl1 := A1.l
  repeat' walk_at "rf"
  unfold stopL
  refine wps_rng (fun c m L S' => Iv (∃ (i : Nat) (z2 z3 : LV), c = (i : Int) ∧ i + m = ts.length ∧ L = [.v (.obj o), .v (.obj S.length), z2, z3] ∧ S' = stI S rs i)) ?_ ?_ 0 _ _ _ ⟨0, _, _, rfl, by simp, rfl, rfl⟩
  · rintro c m L S' ⟨i, z2, z3, rfl, him, rfl, rfl⟩
    refine tgX _ rfl ?_
    have hr := root_ok (A.pre (.dK (kvI (S.length + 1) rs i) :: (List.range i).map (fL rs i))) R (t := i) (by omega)
    have hi2 := (A.pre (.dK (kvI (S.length + 1) rs i) :: (List.range i).map (fL rs i))).i
    have hk0 := dLook_at (y := .int 0) (q := .inl 0) (stI_at S rs i) rfl
    have hrl := root_le rs i
    unfold stI at hk0 ⊢
    repeat' walk_at "rf"
    have e3 : S ++ O.dK (kvI (S.length + 1) rs i) :: (List.range i).map (fL rs i) ++ [O.lst []] = S ++ O.dK (kvI (S.length + 1) rs i) :: (List.range (i + 1)).map (fL rs i) := by
      rw [appk, List.cons_append, range_fL]
    have e4 : (S ++ O.dK (kvI (S.length + 1) rs i) :: (List.range i).map (fL rs i)).length = S.length + 1 + i := by simp; omega
    rw [e3]
    try rw [e4]
    have hkl : (kvI (S.length + 1) rs i).length < sizeLine := by
      unfold kvI rtsI
      rw [List.length_map]
      have := List.length_filter_le (fun t => decide (root rs t = t)) (List.range i)
      rw [List.length_range] at this
      omega
    have hg := kv_get (S.length + 1) (root rs i) (rtsI rs i)
    have hat := at_cls S rs (kv := kvI (S.length + 1) rs i) hrl
    refine ⟨atk0 rfl, hkl, fun d hd => ?_, fun hd => ?_⟩
    · have hd2 : d = .obj (S.length + 1 + root rs i) ∧ root rs i < i := by
        unfold kvI at hd
        rw [hg] at hd
        split at hd
        · rename_i hm
          cases hd
          exact ⟨rfl, List.mem_range.mp (List.mem_filter.mp hm).1⟩
        · cases hd
      obtain ⟨rfl, hlt⟩ := hd2
      have hz9 : ((clsI rs i (root rs i)).map nD).length < sizeLine := by
        unfold clsI
        rw [List.length_map]
        have := List.length_filter_le (fun t => decide (root rs t = root rs i)) (List.range i)
        rw [List.length_range] at this
        omega
      have hss := st_step S rs i (kvI (S.length + 1) rs i)
      clear hz9
      repeat' walk_at "rf"
      refine ⟨by
        unfold clsI
        rw [List.length_map]
        have := List.length_filter_le (fun t => decide (root rs t = root rs i)) (List.range i)
        rw [List.length_range] at this
        omega, fun S' hS' => ?_⟩
      rw [hss] at hS'
      subst hS'
      repeat' walk_at "rf"
      show Iv _
      refine ⟨i + 1, _, _, by omega, by omega, rfl, ?_⟩
      have hne : ¬ root rs i = i := by omega
      unfold kvI
      rw [rts_succ, if_neg hne, List.append_nil]
    · have hri : root rs i = i := by
        unfold kvI at hd
        rw [hg] at hd
        split at hd
        · cases hd
        · rename_i hm
          by_cases h : root rs i = i
          · exact h
          · exact absurd (List.mem_filter.mpr ⟨List.mem_range.mpr (by omega), decide_eq_true (root_idem R i)⟩) hm
      rw [setk0, List.set_cons_zero, putK_new hd, hri]
      have hat2 := at_cls S rs (kv := kvI (S.length + 1) rs i ++ [(.inl (root rs i : Int), D.obj (S.length + 1 + i))]) hrl
      rw [hri] at hat2
      have hz9 : ((clsI rs i i).map nD).length < sizeLine := by rw [cls_self]; exact Nat.lt_trans (by decide : 0 < 100000) big
      have hss := st_step S rs i (kvI (S.length + 1) rs i ++ [(.inl (root rs i : Int), D.obj (S.length + 1 + i))])
      rw [hri] at hss
      repeat' walk_at "rf"
      rw [hss]
      repeat' walk_at "rf"
      show Iv _
      refine ⟨i + 1, _, _, by omega, by omega, rfl, ?_⟩
      unfold kvI
      rw [rts_succ, if_pos hri, List.map_append]
      rfl
  · rintro c L S' ⟨i, z2, z3, rfl, him, rfl, rfl⟩
    obtain rfl : i = ts.length := by omega
    repeat' walk_at "rf"
    have hrl : (rtsI rs ts.length).length ≤ ts.length := by
      unfold rtsI
      have := List.length_filter_le (fun t => decide (root rs t = t)) (List.range ts.length)
      rw [List.length_range] at this
      exact this
    refine ⟨stI_at S rs ts.length, inKs_kv _ _ _, by rw [List.length_map]; omega, ?_⟩
    rw [srt_rts]
    repeat' walk_at "rf"
    rw [List.map_map]
    refine wp.eq (lc_eq (f := nD) (g := fun r => D.tup ((clsI rs ts.length r).map nD)) (rtsI rs ts.length) (fun r hr => ⟨_, rfl, rfl, ok_of ?_⟩) (by omega)) ?_
    · have hr2 := List.mem_range.mp (List.mem_filter.mp hr).1
      have hk := dLook_at (y := nD r) (q := .inl (r : Int)) (stI_at S rs ts.length) rfl
      have hg := kv_get (S.length + 1) r (rtsI rs ts.length)
      rw [if_pos hr] at hg
      unfold kvI at hk
      rw [hg] at hk
      have hat : (stI S rs ts.length)[S.length + 1 + r]? = some (.lst ((clsI rs ts.length r).map nD)) := by
        rw [show S.length + 1 + r = S.length + (r + 1) by omega]
        refine atk ?_
        rw [List.getElem?_cons_succ, List.getElem?_map, List.getElem?_range hr2]
        rfl
      have hbt : bTuple [.lst ((clsI rs ts.length r).map nD)] = some (.tup ((clsI rs ts.length r).map nD)) := rfl
      repeat' walk_at "rf"
    · repeat' walk_at "rf"
      show Iv _
      exact ⟨rfl, _, rfl⟩
end
end
end Rf
set_option Elab.async false
set_option linter.all false
set_option maxRecDepth 100000
set_option maxHeartbeats 0
namespace Rf
open PySem PySem.Spec PyProof.Rows L2 TL Rf
open Lw
section
variable {x0 x1 : O} {T : Sto} {o : Nat} {ts : List Th} {as : List An}
theorem trl_ag {rs : List Nat} {es : List Ed} {st : D} (h : Trl ts as rs es st) : (st = .non ∧ Ag ts as) ∨ ((∃ vs, st = .tup vs) ∧ ¬ Ag ts as) := by
  rcases h with ⟨rfl, J, hno⟩ | ⟨vs, rfl, _, _, _, hnag, _⟩
  · exact .inl ⟨rfl, J.ag.mpr hno⟩
  · exact .inr ⟨⟨vs, rfl⟩, hnag⟩
theorem ss_ins (Q : Ss T o ts as) (x0 x1 : O) : ∃ l a r e : Nat, insOf (x0 :: x1 :: T) (.obj o) = some (("Sameness" : Str), (["listed", "answered", "roots", "edges"] : List Str), [D.obj l, .obj a, .obj r, .obj e]) := by
  obtain ⟨l, a, r, e, rs, es, X⟩ := Q
  exact ⟨l, a, r, e, (X.A x0 x1).i⟩
section
local macro_rules | `(tactic| walk_at "rf") => `(tactic| first | ((with_reducible refine exG ?_); ((with_reducible apply Exists.intro); (fail_if_success (with_reducible refine g_og ?_ ?_)); (fail_if_success (with_reducible refine repG ?_)); (repeat (with_reducible apply Exists.intro)); refine And.intro rfl ?_)) | ((with_reducible refine anG ?_); ((with_reducible refine And.intro ?_ ?_); exact rfl)) | fail)
local macro_rules | `(tactic| walk_at "rf") => `(tactic| first | ((with_reducible refine wsG ?_); (with_reducible refine Ws.imp ?_)) | ((with_reducible refine exG ?_); (with_reducible refine g_op ?_)) | fail)
local macro_rules | `(tactic| walk_at "rf") => `(tactic| first | ((with_reducible apply g_ins); (· with_reducible assumption)) | ((with_reducible refine wpG ?_); (with_reducible refine Wp.imp ?_)) | fail)
theorem may_ok (Q : Ss T o ts as) (W : Wd ts as) {p q : Nat} (hp : p < ts.length) (hq : q < ts.length) :
    @wp noXP _ (c_Sameness_may_be_same [.obj o, nD p, nD q] (x0 :: x1 :: T)) fun d S' => Iv (∃ (G : Sto) (b : Bool), S' = x0 :: x1 :: (T ++ G) ∧ d = .bl b ∧ (b = true ↔ Ag ts (as ++ [⟨p, q, 1⟩]))) := by
  obtain ⟨l, a, r, e, hins⟩ := ss_ins Q x0 x1
  obtain ⟨l, a, r, e, rs, es, X⟩ := Q
  have hb := X.bd
  have hn := W.n
  have hz := W.z
  have hm : (ts.length + 1) * (rs.sum + es.length + 2) ≤ 15 * 93 := Nat.mul_le_mul (by omega) (by omega)
  have ht := trial_ok (X.A x0 x1) X.I X.no W.ths.ok W.p3 (by omega) (by omega) (by omega) W.ab (by omega) hp hq 7
  apply u_Sameness_may_be_same
  repeat' walk_at "rf"
  refine ht.mono ?_
  rintro _ S5 ⟨rs', es', st, G, rfl, h5, h6, h7, h8⟩
  rcases trl_ag h8 with ⟨rfl, hag⟩ | ⟨⟨vs, rfl⟩, hag⟩
  · repeat' walk_at "rf"
    show Iv _
    exact ⟨G, true, h5, rfl, ⟨fun _ => hag, fun _ => rfl⟩⟩
  · repeat' walk_at "rf"
    show Iv _
    exact ⟨G, false, h5, rfl, ⟨fun h => (by cases h), fun h => absurd h hag⟩⟩
end
end
end Rf
set_option Elab.async false
set_option linter.all false
set_option maxRecDepth 100000
set_option maxHeartbeats 0
namespace Rf
open PySem PySem.Spec PyProof.Rows L2 TL Rf
open Lw
section
variable {S : Sto} {o l a r e : Nat} {ts : List Th} {as : List An} {rs : List Nat} {es : List Ed}
theorem lp_last {vs : List D} {x y : Nat} {w : D} (h : vs[vs.length - 1]? = some (.tup [nD x, nD y, w])) : lp vs = (x, y) := by
  unfold lp
  rw [gD h]
  show (ix (nD x), ix (nD y)) = _
  rw [ix_n, ix_n]
theorem ne_empty {vs : List D} (h : vs ≠ []) : vs.isEmpty = false := by
  cases vs with
  | nil => exact absurd rfl h
  | cons => rfl
theorem clash_of {vs : List D} {x y : Nat} {w : D} (hne : vs ≠ []) (hvl : vs[vs.length - 1]? = some (.tup [nD x, nD y, w])) (hcl : unlB ts x y = true ∨ ∃ b ∈ as, b.t = 0 ∧ abt b.a b.b x y = true) : clashB ts as vs = true := by
  unfold clashB
  rw [ne_empty hne, if_neg Bool.false_ne_true, lp_last hvl]
  show (unlB ts x y || anyA as x y) = true
  rcases hcl with h | ⟨b, hb1, hb2, hb3⟩
  · rw [h]; rfl
  · rw [Bool.or_eq_true]
    refine .inr ?_
    unfold anyA
    rw [List.any_eq_true]
    exact ⟨b, hb1, by rw [decide_eq_true hb2, hb3]; rfl⟩
abbrev ClX (S : Sto) (ts : List Th) (as : List An) : ExP := ⟨fun x S' => ∃ (G : Sto) (vs : List D), S' = S ++ G ∧ x = ⟨"Clash", [("steps", .tup vs)]⟩ ∧ (∀ k, k < vs.length → rowB ts as vs k = true) ∧ vs.length < 50000 ∧ clashB ts as vs = true⟩
section
local macro_rules | `(tactic| walk_at "rf") => `(tactic| first | ((with_reducible refine anG ?_); ((with_reducible refine And.intro ?_ ?_); exact rfl)) | fail)
local macro_rules | `(tactic| walk_at "rf") => `(tactic| first | ((with_reducible refine anG ?_); ((with_reducible apply r_isT); (· first | with_reducible assumption | exact rfl))) | ((with_reducible refine anG ?_); ((with_reducible apply r_isF); (· first | with_reducible assumption | exact rfl))) | fail)
local macro_rules | `(tactic| walk_at "rf") => `(tactic| first | ((with_reducible refine exG ?_); (with_reducible refine g_op ?_)) | ((with_reducible refine exG ?_); ((with_reducible apply Exists.intro); (fail_if_success (with_reducible refine g_og ?_ ?_)); (fail_if_success (with_reducible refine repG ?_)); (repeat (with_reducible apply Exists.intro)); refine And.intro rfl ?_)) | fail)
local macro_rules | `(tactic| walk_at "rf") => `(tactic| first | ((with_reducible refine wpG ?_); (with_reducible refine Wp.imp ?_)) | ((with_reducible refine wsG ?_); (with_reducible refine Ws.imp ?_)) | fail)
local macro_rules | `(tactic| walk_at "rf") => `(tactic| first | ((with_reducible apply g_ins); (· with_reducible assumption)) | ((with_reducible apply wp.eq); (· with_reducible assumption)) | fail)
theorem tell_clash0 (A : SmA S o l a r e ts as rs es) (I : Sv ts as rs es []) (hn : ts.length < 20000) (hel : es.length < 20000) (hbn : (ts.length + 1) * (es.length + 2) < 40000) {p q : Nat} (hp : p < ts.length) (hq : q < ts.length) (h1 : One rs p q) (n : Nat) :
    @wp (ClX S ts (as ++ [⟨p, q, 0⟩])) _ (c_Sameness_tell (n + 4) [.obj o, nD p, nD q, .int 0] S) fun _ _ => False := by
  have hi := A.i
  have hs := is_same_ok A I.rk hp hq
  rw [decide_eq_true h1] at hs
  have hI : Sv ts (as ++ [⟨p, q, 0⟩]) rs es [] := I.zero rfl
  have hb := steps_between_ok A hI hn hel hbn hp hq h1
  apply u_Sameness_tell
  repeat' walk_at "rf"
  refine hb.up.mono ?_
  rintro _ S5 ⟨vs, G, rfl, h5, hrow, hvz, hl⟩
  refine ⟨G, vs, h5, rfl, hrow, hvz, ?_⟩
  rcases hl with ⟨rfl, rfl⟩ | ⟨hne, x, y, w, hv0, hvl, hab⟩
  · show anyE (as ++ [⟨p, p, 0⟩]) = true
    unfold anyE
    rw [List.any_eq_true]
    exact ⟨⟨p, p, 0⟩, by simp, by simp⟩
  · exact clash_of hv0 hvl (.inr ⟨⟨p, q, 0⟩, by simp, rfl, by rw [abt_flip]; exact hab⟩)
theorem tell_clash1 (A : SmA S o l a r e ts as rs es) (I : Sv ts as rs es []) (hNo : No as (One rs)) (hts : ∀ t ∈ ts, t.ok ts.length) {P : Nat} (hP : ∀ i, (thg ts i).pts.length ≤ P) (hB : (rs.sum + es.length + 1) * (P + 1) ≤ 10 ^ 5) (hn : ts.length < 20000) (hbn : (ts.length + 1) * (rs.sum + es.length + 2) < 40000) (hba : ∀ x ∈ as, x.a < ts.length ∧ x.b < ts.length) (hz : as.length < 9000) {p q : Nat} (hp : p < ts.length) (hq : q < ts.length) (hnag : ¬ Ag ts (as ++ [⟨p, q, 1⟩])) (n : Nat) :
    @wp (ClX S ts (as ++ [⟨p, q, 1⟩])) _ (c_Sameness_tell (n + 4) [.obj o, nD p, nD q, .int 1] S) fun _ _ => False := by
  have hi := A.i
  have ht := trial_ok A I hNo hts hP hB hn hbn hba hz hp hq n
  apply u_Sameness_tell
  repeat' walk_at "rf"
  refine ht.up.mono ?_
  rintro _ S5 ⟨rs', es', st, G, rfl, h5, h6, h7, h8⟩
  rcases h8 with ⟨_, J, hno⟩ | ⟨vs, rfl, hrow, hvz, hne, _, x, y, w, hvl, hcl⟩
  · exact absurd (J.ag.mpr hno) hnag
  refine ⟨_, rfl, fun L' hL' => ?_⟩
  subst hL'
  repeat' walk_at "rf"
  exact ⟨G, vs, h5, rfl, hrow, hvz, clash_of hne hvl hcl⟩
end
end
end Rf
set_option Elab.async false
set_option linter.all false
set_option maxRecDepth 100000
set_option maxHeartbeats 0
namespace Rf
open PySem PySem.Spec PyProof.Rows L2 TL Rf
open Lw
section
variable {S : Sto} {o l a r e : Nat} {ts : List Th} {as : List An} {rs : List Nat} {es : List Ed}
section
local macro_rules | `(tactic| walk_at "rf") => `(tactic| first | ((with_reducible refine anG ?_); ((with_reducible refine And.intro ?_ ?_); exact Nat.le_of_ble_eq_true rfl)) | fail)
local macro_rules | `(tactic| walk_at "rf") => `(tactic| first | ((with_reducible refine anG ?_); ((with_reducible refine And.intro ?_ ?_); exact rfl)) | ((with_reducible refine anG ?_); ((with_reducible refine And.intro ?_ ?_); (· with_reducible assumption))) | fail)
local macro_rules | `(tactic| walk_at "rf") => `(tactic| first | ((with_reducible refine anG ?_); ((with_reducible apply r_isT); (· first | with_reducible assumption | exact rfl))) | ((with_reducible refine anG ?_); ((with_reducible apply r_isF); (· first | with_reducible assumption | exact rfl))) | fail)
local macro_rules | `(tactic| walk_at "rf") => `(tactic| first | ((with_reducible refine exG ?_); (with_reducible refine g_op ?_)) | ((with_reducible refine exG ?_); ((with_reducible apply Exists.intro); (fail_if_success (with_reducible refine g_og ?_ ?_)); (fail_if_success (with_reducible refine repG ?_)); (repeat (with_reducible apply Exists.intro)); refine And.intro rfl ?_)) | fail)
local macro_rules | `(tactic| walk_at "rf") => `(tactic| first | ((with_reducible refine wsG ?_); (with_reducible refine Ws.imp ?_)) | ((with_reducible refine stG ?_); (intro S' hS'; (try simp only [List.cons_append, List.nil_append, List.set_cons_zero, List.set_cons_succ] at hS'); subst hS')) | fail)
local macro_rules | `(tactic| walk_at "rf") => `(tactic| first | ((with_reducible apply wp.eq); (· with_reducible assumption)) | ((with_reducible refine wpG ?_); (with_reducible refine Wp.imp ?_)) | fail)
local macro_rules | `(tactic| walk_at "rf") => `(tactic| first | ((with_reducible apply Exists.intro); (with_reducible refine And.intro ?_ ?_); (· with_reducible assumption)) | ((with_reducible apply g_dr1X); (· with_reducible assumption); (· with_reducible assumption)) | fail)
local macro_rules | `(tactic| walk_at "rf") => `(tactic| first | ((with_reducible apply g_ins); (· with_reducible assumption)) | (with_reducible refine And.intro (List.mem_singleton.mpr rfl) ?_) | fail)
theorem tell_okV (A : SmA S o l a r e ts as rs es) (ap : Apt o l a r e) (I : Sv ts as rs es []) (hNo : No as (One rs)) (hts : ∀ t ∈ ts, t.ok ts.length) {P : Nat} (hP : ∀ i, (thg ts i).pts.length ≤ P) (hB : (rs.sum + es.length + 1) * (P + 1) ≤ 10 ^ 5) (hn : ts.length < 20000) (hbn : (ts.length + 1) * (rs.sum + es.length + 2) < 40000) (hba : ∀ x ∈ as, x.a < ts.length ∧ x.b < ts.length) (hz : as.length < 9000) {p q : Nat} {z : Int} (hp : p < ts.length) (hq : q < ts.length) (h01 : z = 0 ∨ z = 1) (hag : Ag ts (as ++ [⟨p, q, z⟩])) (n : Nat) :
    @wp noXP _ (c_Sameness_tell (n + 4) [.obj o, nD p, nD q, .int z] S) fun d S' => Iv (d = nD (as.length + 1) ∧ ∃ (G : Sto) (a' r' e' : Nat) (rs' : List Nat) (es' : List Ed), (S' = S.set a (.lst ((as ++ [(⟨p, q, z⟩ : An)]).map An.d)) ∨ ∃ X, S' = (S ++ G).set o X) ∧ SmA S' o l a' r' e' ts (as ++ [⟨p, q, z⟩]) rs' es' ∧ Apt o l a' r' e' ∧ (a ≤ a' ∧ r ≤ r' ∧ e ≤ e') ∧ Sv ts (as ++ [⟨p, q, z⟩]) rs' es' [] ∧ No (as ++ [⟨p, q, z⟩]) (One rs') ∧ es'.length + rs'.sum ≤ rs.sum + es.length) := by
  have hi := A.i
  have ha := A.a
  have hlz : (as.map An.d).length < sizeLine := by rw [List.length_map]; exact Nat.lt_trans hz (by decide)
  have hs := is_same_ok A I.rk hp hq
  apply u_Sameness_tell
  rcases h01 with rfl | rfl
  · have hI : Sv ts (as ++ [⟨p, q, 0⟩]) rs es [] := I.zero rfl
    have hno := hI.ag.mp hag
    have h1 : ¬ One rs p q := hno ⟨p, q, 0⟩ (by simp) rfl
    rw [decide_eq_false h1] at hs
    repeat' walk_at "rf"
    rw [mapAn_app]
    have A6 := A.setA ap (as ++ [(⟨p, q, 0⟩ : An)])
    generalize hS6 : S.set a (.lst ((as ++ [(⟨p, q, 0⟩ : An)]).map An.d)) = S6 at A6 ⊢
    have hi6 := A6.i
    have ha6 := A6.a
    have hl6 : bLen [.lst ((as ++ [(⟨p, q, 0⟩ : An)]).map An.d)] = some (nD (as.length + 1)) := by
      show some (D.int (((as ++ [(⟨p, q, 0⟩ : An)]).map An.d).length : Nat)) = _
      rw [List.length_map, List.length_append]; rfl
    repeat' walk_at "rf"
    show Iv _
    exact ⟨rfl, [], a, r, e, rs, es, .inl rfl, A6, ap, ⟨Nat.le_refl _, Nat.le_refl _, Nat.le_refl _⟩, hI, hno, by omega⟩
  · have ht := trial_ok A I hNo hts hP hB hn hbn hba hz hp hq n
    repeat' walk_at "rf"
    refine ht.mono ?_
    rintro _ S5 ⟨rs', es', st, G, rfl, h5, h6, h7, h8⟩
    have h9 : st = .non ∧ Sv ts (as ++ [⟨p, q, 1⟩]) rs' es' [] ∧ No (as ++ [⟨p, q, 1⟩]) (One rs') := by
      rcases h8 with h | ⟨vs, _, _, _, _, hnag, _⟩
      · exact h
      · exact absurd hag hnag
    obtain ⟨rfl, J, hno⟩ := h9
    refine ⟨_, rfl, fun L' hL' => ?_⟩
    subst hL'
    have A5 : SmA S5 o l a r e ts as rs es := by rw [h5]; exact A.pre G
    have hi5 := A5.i
    have hj5 := h6.i
    have ho : o < S.length := (List.getElem?_eq_some_iff.mp (insOf_at hi)).1
    have hla : l < S.length := (List.getElem?_eq_some_iff.mp A.l).1
    have haa : a < S.length := (List.getElem?_eq_some_iff.mp ha).1
    have hrr : r < S.length := (List.getElem?_eq_some_iff.mp A.r).1
    have hee : e < S.length := (List.getElem?_eq_some_iff.mp A.e).1
    have hne : o ≠ S.length := Nat.ne_of_lt ho
    repeat' walk_at "rf"
    refine ⟨insOf_at hi5, List.mem_singleton.mpr rfl, by decide, fun S6 hS6 => ?_⟩
    rw [fP5] at hS6
    have hi6 := ins_set hi5 hS6
    have hj6 := ins_ne hj5 hne hS6
    repeat' walk_at "rf"
    refine ⟨insOf_at hi6, List.mem_singleton.mpr rfl, by decide, fun S7 hS7 => ?_⟩
    rw [fP6] at hS7
    have hi7 := ins_set hi6 hS7
    have hj7 := ins_ne hj6 hne hS7
    repeat' walk_at "rf"
    refine ⟨insOf_at hi7, List.mem_singleton.mpr rfl, by decide, fun S8 hS8 => ?_⟩
    rw [fP7] at hS8
    have hi8 := ins_set hi7 hS8
    have hS : ∃ X, S8 = (S ++ G).set o X := by
      rw [← hS8, ← hS7, ← hS6, h5, List.set_set, List.set_set]
      exact ⟨_, rfl⟩
    have hk : ∀ {n : Nat} {ds : List D}, S5[n]? = some (.lst ds) → S8[n]? = some (.lst ds) := fun {n ds} h => by
      have hno : o ≠ n := fun h0 => by
        subst h0
        rw [insOf_at hi5] at h
        cases h
      rw [← hS8, List.getElem?_set_ne hno, ← hS7, List.getElem?_set_ne hno, ← hS6, List.getElem?_set_ne hno]
      exact h
    have A8 : SmA S8 o l (S.length + 6) (S.length + 7) (S.length + 8) ts (as ++ [⟨p, q, 1⟩]) rs' es' := ⟨hi8, hk A5.l, hk h6.a, hk h6.r, hk h6.e⟩
    have ha8 := A8.a
    have hl8 : bLen [.lst ((as ++ [(⟨p, q, 1⟩ : An)]).map An.d)] = some (nD (as.length + 1)) := by
      show some (D.int (((as ++ [(⟨p, q, 1⟩ : An)]).map An.d).length : Nat)) = _
      rw [List.length_map, List.length_append]; rfl
    repeat' walk_at "rf"
    show Iv _
    exact ⟨rfl, G, S.length + 6, S.length + 7, S.length + 8, rs', es', .inr hS, A8, ⟨by omega, by omega, by omega, by omega, by omega, by omega⟩, ⟨by omega, by omega, by omega⟩, J, hno, h7⟩
end
end
section
variable {x0 x1 : O} {T : Sto} {o : Nat} {ts : List Th} {as : List An}
theorem _root_.Rf.Ss.tlV (Q : Ss T o ts as) (W : Wd ts as) {p q : Nat} {z : Int} (hp : p < ts.length) (hq : q < ts.length) (h01 : z = 0 ∨ z = 1) (hag : Ag ts (as ++ [⟨p, q, z⟩])) :
    @wp noXP _ (c_Sameness_tell 10 [.obj o, nD p, nD q, .int z] (x0 :: x1 :: T)) fun d S' => Iv (d = nD (as.length + 1) ∧ ∃ T', S' = x0 :: x1 :: T' ∧ Ss T' o ts (as ++ [⟨p, q, z⟩])) := by
  obtain ⟨l, a, r, e, rs, es, X⟩ := Q
  have hb := X.bd
  have hn := W.n
  have hz := W.z
  have hm : (ts.length + 1) * (rs.sum + es.length + 2) ≤ 15 * 93 := Nat.mul_le_mul (by omega) (by omega)
  refine (tell_okV (X.A x0 x1) X.ap X.I X.no W.ths.ok W.p3 (by omega) (by omega) (by omega) W.ab (by omega) hp hq h01 hag 6).mono ?_
  rintro d S' ⟨hd, G, a', r', e', rs', es', hS, A', ap', hle, I', no', hb'⟩
  have hlo := X.lo
  have hS' : ∃ T', S' = x0 :: x1 :: T' := by
    rcases hS with h | ⟨Y, h⟩
    · obtain ⟨k, rfl⟩ : ∃ k, a = k + 2 := ⟨a - 2, by omega⟩
      exact ⟨_, h⟩
    · obtain ⟨k, rfl⟩ : ∃ k, o = k + 2 := ⟨o - 2, by omega⟩
      exact ⟨_, h⟩
  obtain ⟨T', rfl⟩ := hS'
  have hlo' : 2 ≤ o ∧ 2 ≤ l ∧ 2 ≤ a' ∧ 2 ≤ r' ∧ 2 ≤ e' := by omega
  exact ⟨hd, T', rfl, l, a', r', e', rs', es', fun y0 y1 => A'.deck hlo', ap', hlo', I', no', by omega⟩
theorem ss_least (Q : Ss T o ts as) (hn : ts.length ≤ 14) : ∃ rs : List Nat, RsOk rs ts.length ∧ Poss ts (One rs) ∧ Yes as (One rs) ∧ No as (One rs) ∧ (∀ M, Poss ts M → Yes as M → ∀ p q, One rs p q → M p q) ∧ ∀ (x0 x1 : O) (G : Sto), (∀ p q, p < ts.length → q < ts.length → c_Sameness_is_same [.obj o, nD p, nD q] (x0 :: x1 :: (T ++ G)) = .ok (.bl (decide (One rs p q))) (x0 :: x1 :: (T ++ G))) ∧ @wp noXP _ (c_Sameness_classes [.obj o] (x0 :: x1 :: (T ++ G))) fun d S' => Iv (d = .tup ((rtsI rs ts.length).map fun r => D.tup ((clsI rs ts.length r).map nD)) ∧ ∃ G', S' = x0 :: x1 :: ((T ++ G) ++ G')) := by
  obtain ⟨l, a, r, e, rs, es, X⟩ := Q
  refine ⟨rs, X.I.rk, X.I.poss.1, X.I.poss.2, X.no, fun M P Y => X.I.least P Y, fun x0 x1 G => ?_⟩
  have A := (X.A x0 x1).pre G
  exact ⟨fun p q hp hq => is_same_ok A X.I.rk hp hq, classes_ok A X.I.rk (by omega)⟩
theorem ss_tell (Q : Ss T o ts as) (W : Wd ts as) {p q : Nat} {z : Int} (hp : p < ts.length) (hq : q < ts.length) (h01 : z = 0 ∨ z = 1) :
    (Ag ts (as ++ [⟨p, q, z⟩]) ∧ @wp noXP _ (c_Sameness_tell 10 [.obj o, nD p, nD q, .int z] (x0 :: x1 :: T)) fun d S' => Iv (d = nD (as.length + 1) ∧ ∃ T', S' = x0 :: x1 :: T' ∧ Ss T' o ts (as ++ [⟨p, q, z⟩]))) ∨
    (¬ Ag ts (as ++ [⟨p, q, z⟩]) ∧ @wp (ClX (x0 :: x1 :: T) ts (as ++ [⟨p, q, z⟩])) _ (c_Sameness_tell 10 [.obj o, nD p, nD q, .int z] (x0 :: x1 :: T)) fun _ _ => False) := by
  by_cases hag : Ag ts (as ++ [⟨p, q, z⟩])
  · exact .inl ⟨hag, Q.tlV W hp hq h01 hag⟩
  · refine .inr ⟨hag, ?_⟩
    obtain ⟨l, a, r, e, rs, es, X2⟩ := Q
    have hb := X2.bd
    have hn := W.n
    have hz := W.z
    have hm : (ts.length + 1) * (rs.sum + es.length + 2) ≤ 15 * 93 := Nat.mul_le_mul (by omega) (by omega)
    have hm2 : (ts.length + 1) * (es.length + 2) ≤ 15 * 93 := Nat.mul_le_mul (by omega) (by omega)
    rcases h01 with rfl | rfl
    · have hI : Sv ts (as ++ [⟨p, q, 0⟩]) rs es [] := X2.I.zero rfl
      have h1 : One rs p q := Classical.byContradiction fun h => hag (hI.ag.mpr fun x hx hx0 => by
        rcases List.mem_append.mp hx with k | k
        · exact X2.no x k hx0
        · cases List.mem_singleton.mp k; exact h)
      exact tell_clash0 (X2.A x0 x1) X2.I (by omega) (by omega) (by omega) hp hq h1 6
    · exact tell_clash1 (X2.A x0 x1) X2.I X2.no W.ths.ok W.p3 (by omega) (by omega) (by omega) W.ab (by omega) hp hq hag 6
end
end Rf
set_option Elab.async false
set_option linter.all false
set_option maxRecDepth 100000
set_option maxHeartbeats 0
namespace Rf
open PySem PySem.Spec PyProof.Rows L2 TL Rf
open Lw
section
variable {x0 x1 : O} {T : Sto} {o : Nat} {ts : List Th} {as : List An}
section
local macro_rules | `(tactic| walk_at "rf") => `(tactic| first | ((with_reducible refine anG ?_); ((with_reducible refine And.intro ?_ ?_); exact rfl)) | fail)
local macro_rules | `(tactic| walk_at "rf") => `(tactic| first | ((with_reducible refine exG ?_); (with_reducible refine g_op ?_)) | ((with_reducible refine exG ?_); ((with_reducible apply Exists.intro); (fail_if_success (with_reducible refine g_og ?_ ?_)); (fail_if_success (with_reducible refine repG ?_)); (repeat (with_reducible apply Exists.intro)); refine And.intro rfl ?_)) | fail)
local macro_rules | `(tactic| walk_at "rf") => `(tactic| first | ((with_reducible refine wpG ?_); (with_reducible refine Wp.imp ?_)) | ((with_reducible refine wsG ?_); (with_reducible refine Ws.imp ?_)) | fail)
local macro_rules | `(tactic| walk_at "rf") => `(tactic| first | ((with_reducible apply g_ins); (· with_reducible assumption)) | ((with_reducible apply r_isT); (· with_reducible assumption)) | fail)
theorem clash_ok (Q : Ss T o ts as) (W : Wd ts as) {p q : Nat} {z : Int} (hp : p < ts.length) (hq : q < ts.length) (h01 : z = 0 ∨ z = 1) (hag : ¬ Ag ts (as ++ [⟨p, q, z⟩])) :
    @wp noXP _ (c__law_is_clash [.obj o, .tup [nD p, nD q, .int z]] (x0 :: x1 :: T)) fun d S' => Iv (d = .bl true ∧ ∃ G, S' = x0 :: x1 :: (T ++ G)) := by
  obtain ⟨l, a, r, e, hi⟩ := ss_ins Q x0 x1
  apply u__law_is_clash
  repeat' walk_at "rf"
  rcases ss_tell (x0 := x0) (x1 := x1) Q W hp hq h01 with ⟨h, _⟩ | ⟨_, htl⟩
  · exact absurd h hag
  · refine wp.cases htl (fun _ _ h => h.elim) ?_
    rintro x S2 ⟨G2, vs, rfl, rfl, hrow, hvz, hcl⟩
    refine ⟨true, rfl, fun _ => ?_, fun h => by cases h⟩
    repeat' walk_at "rf"
    show Iv _
    exact ⟨rfl, G2, rfl⟩
end
end
end Rf
set_option Elab.async false
set_option linter.all false
set_option maxRecDepth 100000
set_option maxHeartbeats 0
namespace Rf
open PySem PySem.Spec PyProof.Rows L2 TL Rf
open Lw
section
variable {S : Sto} {rs : List Nat} {n : Nat} {L : List (List Nat)}
theorem cls_sorted (rs : List Nat) (n r : Nat) : (clsI rs n r).Pairwise (· < ·) := List.Pairwise.filter _ List.pairwise_lt_range
theorem in_cls {rs : List Nat} {n r t : Nat} : t ∈ clsI rs n r ↔ t < n ∧ root rs t = r := by
  unfold clsI
  rw [List.mem_filter, List.mem_range, decide_eq_true_iff]
theorem cls_head (R : RsOk rs n) {i : Nat} (hi : i < n) : (clsI rs n (root rs i))[0]? = some (root rs i) := by
  have hm : root rs i ∈ clsI rs n (root rs i) := in_cls.mpr ⟨Nat.lt_of_le_of_lt (root_le rs i) hi, root_idem R i⟩
  have hs := cls_sorted rs n (root rs i)
  cases hc : clsI rs n (root rs i) with
  | nil => rw [hc] at hm; cases hm
  | cons h t =>
    have hh := (in_cls.mp (show h ∈ clsI rs n (root rs i) by rw [hc]; exact .head _)).2
    have hle : root rs i ≤ h := by rw [← hh]; exact root_le rs h
    rw [hc] at hm hs
    rcases List.mem_cons.mp hm with e | e
    · rw [e]; rfl
    · have := (List.pairwise_cons.mp hs).1 _ e
      omega
theorem cls_one (rs : List Nat) (n i : Nat) : ((List.range n).filter fun j => decide (One rs i j)) = clsI rs n (root rs i) := by
  unfold clsI
  refine List.filter_congr fun j _ => ?_
  rw [decide_eq_decide]
  exact ⟨fun h => h.symm, fun h => h.symm⟩
theorem all_iff {L : List (List Nat)} {i j : Nat} : (L.all fun r => decide (r.getD i 0 = r.getD j 0)) = true ↔ ∀ r ∈ L, r.getD i 0 = r.getD j 0 := by
  rw [List.all_eq_true]
  exact ⟨fun h r hr => of_decide_eq_true (h r hr), fun h r hr => decide_eq_true (h r hr)⟩
theorem all_one2 {L : List (List Nat)} {rs : List Nat} {i j : Nat} (h : (∀ r ∈ L, r.getD i 0 = r.getD j 0) ↔ One rs i j) : (L.all fun r => decide (r.getD i 0 = r.getD j 0)) = decide (One rs i j) := by
  by_cases k : One rs i j
  · rw [decide_eq_true k]; exact all_iff.mpr (h.mpr k)
  · rw [decide_eq_false k, Bool.eq_false_iff]
    exact fun e => k (h.mp (all_iff.mp e))
section
local macro_rules | `(tactic| walk_at "rf") => `(tactic| first | ((with_reducible refine anG ?_); ((with_reducible refine And.intro ?_ ?_); (· with_reducible assumption))) | ((with_reducible refine anG ?_); ((with_reducible refine And.intro ?_ ?_); exact Nat.le_of_ble_eq_true rfl)) | fail)
local macro_rules | `(tactic| walk_at "rf") => `(tactic| first | (with_reducible refine g_iff ?_) | ((with_reducible refine anG ?_); ((with_reducible refine r_dec (fun ht => ?_) (fun ht => ?_)) <;> first | (exfalso; omega) | skip)) | fail)
local macro_rules | `(tactic| walk_at "rf") => `(tactic| first | ((with_reducible refine exG ?_); ((with_reducible apply Exists.intro); (fail_if_success (with_reducible refine g_og ?_ ?_)); (fail_if_success (with_reducible refine repG ?_)); (repeat (with_reducible apply Exists.intro)); refine And.intro rfl ?_)) | (with_reducible refine g_ift ?_) | fail)
local macro_rules | `(tactic| walk_at "rf") => `(tactic| first | ((with_reducible refine exG ?_); ((with_reducible apply g_rng1); (· exact rfl); (· constructor <;> omega))) | ((with_reducible refine exG ?_); (with_reducible refine g_op ?_)) | fail)
local macro_rules | `(tactic| walk_at "rf") => `(tactic| first | ((with_reducible refine wpG ?_); (with_reducible refine Wp.imp ?_)) | ((with_reducible refine wsG ?_); (with_reducible refine Ws.imp ?_)) | fail)
local macro_rules | `(tactic| walk_at "rf") => `(tactic| first | (with_reducible refine stopL_in ?_) | ((with_reducible refine lsG ?_); (intro L' hL'; (try simp only [List.set_cons_zero, List.set_cons_succ] at hL'); subst hL')) | fail)
local macro_rules | `(tactic| walk_at "rf") => `(tactic| first | ((with_reducible apply g_b2); (· with_reducible assumption); (· first | with_reducible assumption | rfl); (· first | with_reducible assumption | rfl)) | ((with_reducible apply g_c1); (· with_reducible assumption); (· first | with_reducible assumption | rfl)) | fail)
theorem lclasses_ok (R : RsOk rs n) (hn : n ≤ 6) (hL : L.length ≤ 203) (hr : ∀ r ∈ L, r.length = n) (hA : ∀ i j, i < n → j < n → ((∀ r ∈ L, r.getD i 0 = r.getD j 0) ↔ One rs i j)) :
    @wp noXP _ (c__law_classes [.lst (L.map rowD), nD n] S) fun d S' => Iv (S' = S ∧ d = .tup ((rtsI rs n).map fun r => D.tup ((clsI rs n r).map nD))) := by
  have big : 100000 < sizeLine := by decide
  have hLz : L.length ≤ sizeLine := by omega
  apply u__law_classes
  repeat' walk_at "rf"
  unfold stopL
  refine wps_rng (fun c m L' S' => Iv (∃ (i : Nat) (z3 z4 z5 z6 : LV), c = (i : Int) ∧ i + m = n ∧ L' = [.v (.lst (L.map rowD)), .v (nD n), .o (.lst ((rtsI rs i).map fun r => D.tup ((clsI rs n r).map nD))), z3, z4, z5, z6] ∧ S' = S)) ?_ ?_ 0 _ _ _ ⟨0, _, _, _, _, rfl, by simp, rfl, rfl⟩
  · rintro c m L' S' ⟨i, z3, z4, z5, z6, rfl, him, rfl, rfl⟩
    refine tgX _ rfl ?_
    have hi : i < n := by omega
    have hzl : ((rtsI rs i).map fun r => D.tup ((clsI rs n r).map nD)).length < sizeLine := by
      rw [List.length_map]
      have : (rtsI rs i).length ≤ i := by unfold rtsI; exact Nat.le_trans (List.length_filter_le _ _) (by rw [List.length_range]; exact Nat.le_refl _)
      omega
    generalize hacc : ((rtsI rs i).map fun r => D.tup ((clsI rs n r).map nD)) = acc at hzl
    repeat' walk_at "rf"
    refine lc_rng (fun j m a S3 => Iv (∃ q : Nat, j = (q : Int) ∧ q + m = n ∧ S3 = S' ∧ a = (((List.range q).filter fun j => decide (One rs i j)).map nD))) ?_ ?_ 0 _ _ [] ⟨0, rfl, by simp, rfl, rfl⟩
    · rintro j m a S3 ⟨q, rfl, hq, rfl, rfl⟩
      have hqn : q < n := by omega
      have hz : (((List.range q).filter fun j => decide (One rs i j)).map nD).length < sizeLine := by
        rw [List.length_map]
        have : ((List.range q).filter fun j => decide (One rs i j)).length ≤ q := Nat.le_trans (List.length_filter_le _ _) (by rw [List.length_range]; exact Nat.le_refl _)
        omega
      have hsn : ((List.range (q + 1)).filter fun j => decide (One rs i j)).map nD = ((List.range q).filter fun j => decide (One rs i j)).map nD ++ (if One rs i q then [nD q] else []) := by
        rw [List.range_succ, List.filter_append, List.map_append]
        congr 1
        by_cases k : One rs i q
        · rw [if_pos k]; simp [k]
        · rw [if_neg k]; simp [k]
      refine ⟨_, rfl, ?_⟩
      repeat' walk_at "rf"
      refine wp.eq (lc_eq (f := rowD) (g := fun r : List Nat => D.bl (decide (r.getD i 0 = r.getD q 0))) L (fun r hrr => ⟨_, rfl, rfl, ok_of ?_⟩) hLz) ?_
      · have g1 : oIx (.lst (r.map nD)) (nD i) = some (nD (r.getD i 0)) := row_at (by rw [hr r hrr]; exact hi)
        have g2 : oIx (.lst (r.map nD)) (nD q) = some (nD (r.getD q 0)) := row_at (by rw [hr r hrr]; exact hqn)
        generalize r.getD i 0 = u at g1
        generalize r.getD q 0 = v at g2
        repeat' walk_at "rf"
        exact ⟨congrArg D.bl (decide_eq_decide.mpr Int.ofNat_inj), rfl⟩
      · have g3 := all_bls (fun r : List Nat => decide (r.getD i 0 = r.getD q 0)) L
        rw [all_one2 (hA i q hi hqn)] at g3
        by_cases hO : One rs i q
        · rw [decide_eq_true hO] at g3
          rw [if_pos hO] at hsn
          repeat' walk_at "rf"
          exact ⟨q + 1, by omega, by omega, rfl, hsn.symm⟩
        · rw [decide_eq_false hO] at g3
          rw [if_neg hO, List.append_nil] at hsn
          repeat' walk_at "rf"
          exact ⟨q + 1, by omega, by omega, rfl, hsn.symm⟩
    · rintro j S3 a ⟨q, rfl, hq, rfl, rfl⟩
      have hq : q = n := by omega
      subst hq
      rw [cls_one]
      have hh : oIx (.lst ((clsI rs q (root rs i)).map nD)) (.int 0) = some (nD (root rs i)) := show oIx _ (.int ((0 : Nat) : Int)) = _ from atI_some (by rw [List.getElem?_map, cls_head R hi]; rfl)
      have hrt := rts_succ rs i
      generalize hcl : clsI rs q (root rs i) = cl at hh
      have hclz : (cl.map nD).length ≤ 6 := by
        rw [← hcl, List.length_map]
        unfold clsI
        exact Nat.le_trans (List.length_filter_le _ _) (by rw [List.length_range]; exact hn)
      by_cases hi0 : root rs i = i
      · rw [hi0] at hh hcl
        rw [if_pos hi0] at hrt
        have hap : acc ++ [D.tup (cl.map nD)] = ((rtsI rs (i + 1)).map fun r => D.tup ((clsI rs q r).map nD)) := by
          rw [hrt, List.map_append, hacc, List.map_cons, List.map_nil, hcl]
        repeat' walk_at "rf"
        all_goals first
          | (exfalso; omega)
          | (show Iv _
             exact ⟨i + 1, _, _, _, _, by omega, by omega, by rw [← hap], rfl⟩)
      · rw [if_neg hi0, List.append_nil] at hrt
        have hap : acc = ((rtsI rs (i + 1)).map fun r => D.tup ((clsI rs q r).map nD)) := by rw [hrt, hacc]
        repeat' walk_at "rf"
        all_goals first
          | (exfalso; omega)
          | (show Iv _
             exact ⟨i + 1, _, _, _, _, by omega, by omega, by rw [← hap], rfl⟩)
  · rintro c L' S' ⟨i, z3, z4, z5, z6, rfl, him, rfl, rfl⟩
    have him : i = n := by omega
    subst him
    repeat' walk_at "rf"
    show Iv _
    exact ⟨rfl, rfl⟩
end
end
end Rf
set_option Elab.async false
set_option linter.all false
set_option maxRecDepth 100000
set_option maxHeartbeats 0
namespace Rf
open PySem PySem.Spec PyProof.Rows L2 TL Rf
open Lw
theorem any_iff {L : List (List Nat)} {i j : Nat} : (L.any fun r => decide (r.getD i 0 = r.getD j 0)) = true ↔ ∃ r ∈ L, r.getD i 0 = r.getD j 0 := by
  rw [List.any_eq_true]
  exact ⟨fun ⟨r, hr, h⟩ => ⟨r, hr, of_decide_eq_true h⟩, fun ⟨r, hr, h⟩ => ⟨r, hr, decide_eq_true h⟩⟩
theorem rp_cls {rs : List Nat} {n : Nat} (hn : n ≤ 6) : ∃ x, bRepr [.tup ((rtsI rs n).map fun r => D.tup ((clsI rs n r).map nD))] = some (.str x) := by
  have hc : ∀ r, (clsI rs n r).length ≤ 6 := fun r => Nat.le_trans (List.length_filter_le _ _) (by rw [List.length_range]; exact hn)
  have hr : (rtsI rs n).length ≤ 6 := Nat.le_trans (List.length_filter_le _ _) (by rw [List.length_range]; exact hn)
  have hm : ∀ r, ∀ t ∈ clsI rs n r, t < 1000 := fun r t ht => by have := (in_cls.mp ht).1; omega
  refine repr_ok (rkDs_all fun d hd => ?_) (Nat.le_trans (bkDs_le (m := 12) fun d hd => ?_) (by rw [List.length_map]; omega)) (dpDs_le fun d hd => ?_)
  all_goals
    obtain ⟨r, hx, rfl⟩ := List.mem_map.mp hd
  · show rkDs ((clsI rs n r).map nD) = true
    refine rkDs_all fun d hd => ?_
    obtain ⟨t, ht, rfl⟩ := List.mem_map.mp hd
    exact decide_eq_true (Nat.lt_of_lt_of_le (show ((t : Int)).natAbs < 1000 by have := hm r t ht; omega) (by decide))
  · show bkDs ((clsI rs n r).map nD) ≤ 12
    refine Nat.le_trans (bkDs_le (m := 1) fun d hd => ?_) (by rw [List.length_map]; have := hc r; omega)
    obtain ⟨t, ht, rfl⟩ := List.mem_map.mp hd
    show bkD (.int t) ≤ 1
    simp only [bkD]
    omega
  · show dpDs ((clsI rs n r).map nD) + 1 ≤ 49
    have : dpDs ((clsI rs n r).map nD) ≤ 40 := dpDs_le fun d hd => by
      obtain ⟨t, ht, rfl⟩ := List.mem_map.mp hd
      show dpD (.int t) ≤ 40
      simp only [dpD]
      omega
    omega
section
variable {x0 x1 : O} {T : Sto} {o : Nat} {ts : List Th} {as : List An} {L : List (List Nat)}
section
local macro_rules | `(tactic| walk_at "rf") => `(tactic| first | ((with_reducible refine anG ?_); ((with_reducible refine And.intro ?_ ?_); exact rfl)) | fail)
local macro_rules | `(tactic| walk_at "rf") => `(tactic| first | ((with_reducible refine anG ?_); ((with_reducible apply r_isT); (· first | with_reducible assumption | exact rfl))) | ((with_reducible refine anG ?_); ((with_reducible apply r_isF); (· first | with_reducible assumption | exact rfl))) | fail)
local macro_rules | `(tactic| walk_at "rf") => `(tactic| first | ((with_reducible refine exG ?_); (with_reducible refine g_op ?_)) | ((with_reducible refine exG ?_); ((with_reducible apply Exists.intro); (fail_if_success (with_reducible refine g_og ?_ ?_)); (fail_if_success (with_reducible refine repG ?_)); (repeat (with_reducible apply Exists.intro)); refine And.intro rfl ?_)) | fail)
local macro_rules | `(tactic| walk_at "rf") => `(tactic| first | ((with_reducible refine wsG ?_); (with_reducible refine Ws.imp ?_)) | ((with_reducible refine exG ?_); ((with_reducible apply g_rng1); (· exact rfl); (· constructor <;> omega))) | fail)
local macro_rules | `(tactic| walk_at "rf") => `(tactic| first | ((with_reducible refine wpG ?_); (with_reducible refine Wp.imp ?_)) | ((with_reducible refine wpG ?_); (with_reducible apply u__law_is_bool)) | fail)
local macro_rules | `(tactic| walk_at "rf") => `(tactic| first | (with_reducible refine stopL_in ?_) | ((with_reducible refine lsG ?_); (intro L' hL'; (try simp only [List.set_cons_zero, List.set_cons_succ] at hL'); subst hL')) | fail)
local macro_rules | `(tactic| walk_at "rf") => `(tactic| first | ((with_reducible apply g_c1); (· with_reducible assumption); (· first | with_reducible assumption | rfl)) | ((with_reducible apply wp.eq); (· with_reducible assumption)) | fail)
local macro_rules | `(tactic| walk_at "rf") => `(tactic| first | ((with_reducible apply g_ins); (· with_reducible assumption)) | ((with_reducible apply g_b2); (· with_reducible assumption); (· first | with_reducible assumption | rfl); (· first | with_reducible assumption | rfl)) | fail)
theorem state_ok (Q : Ss T o ts as) (W : Wd ts as) (hn : ts.length ≤ 6) (H : RowsOk ts as L) (hL : L.length ≤ 203) :
    @wp noXP _ (c__law_state_right [.obj o, .lst (L.map rowD), nD ts.length] (x0 :: x1 :: T)) fun d S' => Iv (d = .bl true ∧ ∃ G, S' = x0 :: x1 :: (T ++ G)) := by
  have big : 100000 < sizeLine := by decide
  have hLz : L.length ≤ sizeLine := by omega
  have hts := W.ths.ok
  have hw : ∀ i, i < ts.length → ∀ p ∈ (thg ts i).pts, p < ts.length := fun i hi y hy => Th.ok_pts hts i hi y hy
  have hr : ∀ r ∈ L, r.length = ts.length := fun r h => (dvs_len ((H r).mp h).1).1
  obtain ⟨rs, R, P, Y, N, least, hcs⟩ := ss_least Q W.n
  have hA : ∀ i j, i < ts.length → j < ts.length → ((∀ r ∈ L, r.getD i 0 = r.getD j 0) ↔ One rs i j) := fun i j hi hj => rows_one H hts hw W.ab P Y N least hi hj
  have hB : ∀ i j, i < ts.length → j < ts.length → ((∃ r ∈ L, r.getD i 0 = r.getD j 0) ↔ Ag ts (as ++ [⟨j, i, 1⟩])) := fun i j hi hj => any_ag H hts hw W.ab hi hj
  apply u__law_state_right
  repeat' walk_at "rf"
  unfold stopL
  refine wps_rng (fun c m L' S' => Iv (∃ (i : Nat) (G : Sto) (z3 z4 z5 z6 : LV), c = (i : Int) ∧ i + m = ts.length ∧ L' = [.v (.obj o), .v (.lst (L.map rowD)), .v (nD ts.length), z3, z4, z5, z6] ∧ S' = x0 :: x1 :: (T ++ G))) ?_ ?_ 0 _ _ _ ⟨0, [], _, _, _, _, rfl, by simp, rfl, by simp⟩
  · rintro c m L' S' ⟨i, G, z3, z4, z5, z6, rfl, him, rfl, rfl⟩
    refine tgX _ rfl ?_
    have hi : i < ts.length := by omega
    repeat' walk_at "rf"
    unfold stopL
    refine wps_rng (fun c m L' S' => Iv (∃ (j : Nat) (G : Sto) (z4 z5 z6 : LV), c = (j : Int) ∧ j + m = i + 1 ∧ L' = [.v (.obj o), .v (.lst (L.map rowD)), .v (nD ts.length), .v (nD i), z4, z5, z6] ∧ S' = x0 :: x1 :: (T ++ G))) ?_ ?_ 0 _ _ _ ⟨0, G, _, _, _, rfl, by omega, rfl, rfl⟩
    · rintro c m L' S' ⟨j, G, z4, z5, z6, rfl, hjm, rfl, rfl⟩
      refine tgX _ rfl ?_
      have hj : j < ts.length := by omega
      obtain ⟨l, a, r, e, hins⟩ := ss_ins (Q.pre G) x0 x1
      have hsm := (hcs x0 x1 G).1 i j hi hj
      have hmy := may_ok (x0 := x0) (x1 := x1) (Q.pre G) W hj hi
      repeat' walk_at "rf"
      refine wp.eq (lc_eq (f := rowD) (g := fun r : List Nat => D.bl (decide (r.getD i 0 = r.getD j 0))) L (fun r hrr => ⟨_, rfl, rfl, ok_of ?_⟩) hLz) ?_
      · have g1 : oIx (.lst (r.map nD)) (nD i) = some (nD (r.getD i 0)) := row_at (by rw [hr r hrr]; exact hi)
        have g2 : oIx (.lst (r.map nD)) (nD j) = some (nD (r.getD j 0)) := row_at (by rw [hr r hrr]; exact hj)
        generalize r.getD i 0 = u at g1
        generalize r.getD j 0 = v at g2
        repeat' walk_at "rf"
        exact ⟨congrArg D.bl (decide_eq_decide.mpr Int.ofNat_inj), rfl⟩
      · have g3 := all_bls (fun r : List Nat => decide (r.getD i 0 = r.getD j 0)) L
        have g4 := any_bls (fun r : List Nat => decide (r.getD i 0 = r.getD j 0)) L
        rw [all_one2 (hA i j hi hj)] at g3
        have g5 := (any_iff (L := L) (i := i) (j := j)).trans (hB i j hi hj)
        generalize (L.any fun r => decide (r.getD i 0 = r.getD j 0)) = an at g4 g5
        generalize (L.map fun r : List Nat => D.bl (decide (r.getD i 0 = r.getD j 0))) = tg at g3 g4
        generalize decide (One rs i j) = on at g3 hsm
        cases on
        all_goals
          repeat' walk_at "rf"
          refine hmy.mono ?_
          rintro _ _ ⟨G', b, rfl, rfl, hb⟩
          have hab : an = b := Bool.eq_iff_iff.mpr (g5.trans hb.symm)
          subst hab
          cases an
          all_goals
            repeat' walk_at "rf"
            show Iv _
            exact ⟨j + 1, G ++ G', _, _, _, by omega, by omega, rfl, by simp⟩
    · rintro c L' S' ⟨j, G, z4, z5, z6, rfl, hjm, rfl, rfl⟩
      repeat' walk_at "rf"
      show Iv _
      exact ⟨i + 1, G, _, _, _, _, by omega, by omega, rfl, rfl⟩
  · rintro c L' S' ⟨i, G, z3, z4, z5, z6, rfl, him, rfl, rfl⟩
    obtain ⟨l, a, r, e, hins⟩ := ss_ins (Q.pre G) x0 x1
    have hcl := (hcs x0 x1 G).2
    obtain ⟨x, hx⟩ := rp_cls (rs := rs) hn
    repeat' walk_at "rf"
    refine hcl.mono ?_
    rintro _ _ ⟨rfl, G', rfl⟩
    have hlc := lclasses_ok (S := x0 :: x1 :: ((T ++ G) ++ G')) R hn hL hr hA
    repeat' walk_at "rf"
    refine hlc.mono ?_
    rintro _ _ ⟨rfl, rfl⟩
    repeat' walk_at "rf"
    show Iv _
    exact ⟨congrArg D.bl (decide_eq_true rfl), G ++ G', by simp⟩
end
end
end Rf
set_option Elab.async false
set_option linter.all false
set_option maxRecDepth 100000
set_option maxHeartbeats 0
namespace Rf
open PySem PySem.Spec PyProof.Rows L2 TL Rf
open Lw
noncomputable abbrev rT26 : SM := sSeq (sSet 4 (eFn c__law_things (aCons (eVar 1) (aCons (eVar 3) (aNil))))) (sSeq (sSet 5 (eFz (fLc (iVal (eFn c__law_divisions (aCons (eVar 3) (aNil)))) [6] (.nm 6) (tTr (eFn c__law_possible (aCons (eVar 4) (aCons (eVar 6) (aNil))))) (eVar 6)))) (sSeq (sPv2 7 8 (.v (eMkD "Sameness" (c_Sameness___init__ 10) (List.replicate 1 (.tup [])) (aCons (eVar 4) (aNil)))) (.o (fLst (aNil)))) (sSeq (sIf (tNt (tTr (eFn c__law_state_right (aCons (eVar 7) (aCons (eVar 5) (aCons (eVar 3) (aNil))))))) (sSeq (sRet (eC (.bl false))) (sNil)) (sNil)) (sSeq (sFor (iArgs rng1 (aCons (eFn c__law_draw (aCons (eVar 1) (aCons (eC (.int 7)) (aNil)))) (aNil))) (.nm 9) (sSeq (sTg (.tup [.nm 10, .nm 11]) (eFn c__law_pair (aCons (eVar 1) (aCons (eVar 4) (aNil))))) (sSeq (sSet 12 (eCall bInt (aCons (eBin cGt (eFn c__law_draw (aCons (eVar 1) (aCons (eC (.int 3)) (aNil)))) (eC (.int 0))) (aNil)))) (sSeq (sSet 13 (eFz (fLc (iVal (pVar 5)) [6] (.nm 6) (tOfE (eBin cEq (eBin cEq (eBin oIx (pVar 6) (pVar 10)) (eBin oIx (pVar 6) (pVar 11))) (eBin cEq (pVar 12) (eC (.int 1))))) (eVar 6)))) (sSeq (sIf (tOfE (eBin cEq (pVar 13) (eFz (fLst (aNil))))) (sSeq (sIf (tNt (tTr (eFn c__law_is_clash (aCons (eVar 7) (aCons (eTup (aCons (eVar 10) (aCons (eVar 11) (aCons (eVar 12) (aNil))))) (aNil)))))) (sSeq (sRet (eC (.bl false))) (sNil)) (sNil)) (sNil)) (sSeq (sSet 5 (eVar 13)) (sSeq (sApp 8 (eTup (aCons (eVar 10) (aCons (eVar 11) (aCons (eVar 12) (aNil)))))) (sSeq (sIf (tOfE (eBin cNe (eCall bReprI (aCons (eMt "tell" [("Sameness", (c_Sameness_tell 10))] (eVar 7) (aCons (eVar 10) (aCons (eVar 11) (aCons (eVar 12) (aNil))))) (aNil))) (eCall bReprI (aCons (eCall bLen (aCons (pVar 8) (aNil))) (aNil))))) (sSeq (sRet (eC (.bl false))) (sNil)) (sNil)) (sNil))))) (sSeq (sIf (tOo (tNt (tTr (eFn c__law_state_right (aCons (eVar 7) (aCons (eVar 5) (aCons (eVar 3) (aNil))))))) (tOfE (eBin cNe (eCall bReprI (aCons (eProp [("Sameness", c_Sameness_told)] (eVar 7)) (aNil))) (eCall bReprI (aCons (eCall bTuple (aCons (pVar 8) (aNil))) (aNil)))))) (sSeq (sRet (eC (.bl false))) (sNil)) (sNil)) (sNil))))))) (sNil)))))
noncomputable abbrev rE26 : SM := sSeq (sIf (tOo (tNt (tTr (eFn c__law_state_right (aCons (eVar 7) (aCons (eVar 5) (aCons (eVar 3) (aNil))))))) (tOfE (eBin cNe (eCall bReprI (aCons (eProp [("Sameness", c_Sameness_told)] (eVar 7)) (aNil))) (eCall bReprI (aCons (eCall bTuple (aCons (pVar 8) (aNil))) (aNil)))))) (sSeq (sRet (eC (.bl false))) (sNil)) (sNil)) (sNil)
theorem stT26 {L : Ls} {S : Sto} {P : Fl → Ls → Sto → Prop} (h : stopL (wps (rT26 L S) P)) : wps (rT26 L S) P := h
theorem stE26 {L : Ls} {S : Sto} {P : Fl → Ls → Sto → Prop} (h : stopL (wps (rE26 L S) P)) : wps (rE26 L S) P := h
theorem stopLc {dep : Option (List (Nat × List D))} {all : List D} {t : Tg} {tt : Ls → Sto → R Bool} {te : EM} {Lw : Ls} {ds acc : List D} {S : Sto} {P : List D → Sto → Prop} (h : stopL (wp (lcLoop dep all t tt te Lw ds S acc) P)) : wp (lcLoop dep all t tt te Lw ds S acc) P := h
theorem okL_rows : ∀ L : List (List Nat), okL (L.map rowD) = true
  | [] => rfl
  | r :: L => by
    show (okL (r.map nD) && okL (L.map rowD)) = true
    rw [okL_nd r, okL_rows L]; rfl
theorem dpL_rows : ∀ L : List (List Nat), dpL (L.map rowD) ≤ 1
  | [] => Nat.zero_le _
  | r :: L => by
    show max (dpL (r.map nD) + 1) (dpL (L.map rowD)) ≤ 1
    have := dpL_nd r
    exact Nat.max_le.mpr ⟨by omega, dpL_rows L⟩
theorem cEq_rows (L : List (List Nat)) : cEq (.lst (L.map rowD)) (.lst []) = some (.bl (decide (L = []))) := by
  have h1 : okD (.lst (L.map rowD)) = true := okL_rows L
  have h2 : dp (.lst (L.map rowD)) ≤ 64 := by
    have := dpL_rows L
    show dpL (L.map rowD) + 1 ≤ 64
    omega
  have e : eqB (.lst (L.map rowD)) (.lst []) = if shp (.lst (L.map rowD)) && shp (.lst []) then some (eqvL (L.map rowD) []) else none := rfl
  unfold cEq
  rw [e, okD_shp h1 h2, okD_shp (d := .lst []) rfl (by decide)]
  cases L <;> rfl
theorem g_repI {S : Sto} {d x : D} {Q : D → Prop} (h : bReprI [d] = some x) (hd : deref S d = d) (k : Q x) : ∃ z, bReprI ([d].map (deref S)) = some z ∧ Q z := by
  rw [List.map_cons, List.map_nil, hd]
  exact ⟨x, h, k⟩
theorem rp_nat {k : Nat} (h : k < 1000) (h0 : k ≠ 0) : ∃ x, bReprI [nD k] = some (.str x) := by
  have h1 : k.log2 < 10 := (Nat.log2_lt h0).mpr (by omega)
  exact ⟨_, x_reprI (show k.log2 < 1920 by omega)⟩
section
variable {ts : List Th} {as : List An}
theorem rk_nat1 {a : Nat} (h : a < 1000) : rkD (nD a) = true := decide_eq_true (Nat.lt_of_lt_of_le (show ((a : Int)).natAbs < 1000 by omega) (by decide))
theorem rp_told1 (hn : ts.length < 1000) (hz : as.length ≤ 60) (hab : ∀ x ∈ as, x.a < ts.length ∧ x.b < ts.length) (ht : ∀ x ∈ as, x.t = 0 ∨ x.t = 1) : ∃ x, bRepr [.tup (as.map An.d)] = some (.str x) := by
  refine repr_ok (rkDs_all fun d hd => ?_) (Nat.le_trans (bkDs_le (m := 10) fun d hd => ?_) (by rw [List.length_map]; omega)) (dpDs_le fun d hd => ?_)
  all_goals
    obtain ⟨x, hx, rfl⟩ := List.mem_map.mp hd
  · obtain ⟨ha, hb⟩ := hab x hx
    have h1 := rk_nat1 (a := x.a) (by omega)
    have h2 := rk_nat1 (a := x.b) (by omega)
    have h3 : rkD (.int x.t) = true := by
      rcases ht x hx with h | h <;> rw [h] <;> decide
    show rkDs [nD x.a, nD x.b, .int x.t] = true
    simp only [rkDs, h1, h2, h3, Bool.and_self]
  · show bkDs [nD x.a, nD x.b, .int x.t] ≤ 10
    simp only [bkDs, bkD]
    omega
  · show dpDs [nD x.a, nD x.b, .int x.t] + 1 ≤ 49
    simp only [dpDs, dpD]
    omega
end
theorem rows0 {ts : List Th} (hts : ∀ t ∈ ts, t.ok ts.length) : RowsOk ts [] ((dvs ts.length).filter (possB ts)) := fun r => by
  rw [List.mem_filter]
  constructor
  · rintro ⟨h1, h2⟩
    exact ⟨h1, (possB_iff hts (dvs_len h1).1).mp h2, fun x hx => (by cases hx), fun x hx => (by cases hx)⟩
  · rintro ⟨h1, h2, _⟩
    exact ⟨h1, (possB_iff hts (dvs_len h1).1).mpr h2⟩
section
variable {n : Nat} {x0 x1 : O} {T : Sto} {o : Nat} {ts : List Th} {as : List An}
section
local macro_rules | `(tactic| walk_at "rf") => `(tactic| first | ((with_reducible refine anG ?_); ((with_reducible refine r_dec (fun ht => ?_) (fun ht => ?_)) <;> first | (exfalso; omega) | skip)) | fail)
local macro_rules | `(tactic| walk_at "rf") => `(tactic| first | ((with_reducible refine exG ?_); ((with_reducible apply Exists.intro); (fail_if_success (with_reducible refine g_og ?_ ?_)); (fail_if_success (with_reducible refine repG ?_)); (repeat (with_reducible apply Exists.intro)); refine And.intro rfl ?_)) | ((with_reducible refine anG ?_); ((with_reducible apply r_isF); (· first | with_reducible assumption | exact rfl))) | fail)
local macro_rules | `(tactic| walk_at "rf") => `(tactic| first | ((with_reducible refine wsG ?_); (with_reducible refine Ws.imp ?_)) | ((with_reducible refine exG ?_); (with_reducible refine g_op ?_)) | fail)
local macro_rules | `(tactic| walk_at "rf") => `(tactic| first | ((with_reducible apply wp.eq); (· with_reducible assumption)) | ((with_reducible refine wpG ?_); (with_reducible refine Wp.imp ?_)) | fail)
local macro_rules | `(tactic| walk_at "rf") => `(tactic| first | ((with_reducible apply g_repI); (· with_reducible assumption); (· exact rfl)) | ((with_reducible apply g_ins); (· with_reducible assumption)) | fail)
theorem re_ok {T : Sto} {y0 y1 : O} {L : List (List Nat)} (Q : Ss T o ts as) (W : Wd ts as) (hn : ts.length ≤ 6) (H : RowsOk ts as L) (hL : L.length ≤ 203) {z0 z1 z2 z4 z6 z9 z10 z11 z12 z13 : LV} {PS : Fl → Ls → Sto → Prop}
    (fin : ∀ G : Sto, PS .nx [z0, z1, z2, .v (nD ts.length), z4, .v (.lst (L.map rowD)), z6, .v (.obj o), .o (.lst (as.map An.d)), z9, z10, z11, z12, z13] (y0 :: y1 :: (T ++ G))) :
    @wps noXP (rE26 [z0, z1, z2, .v (nD ts.length), z4, .v (.lst (L.map rowD)), z6, .v (.obj o), .o (.lst (as.map An.d)), z9, z10, z11, z12, z13] (y0 :: y1 :: T)) PS := by
  have hz := sl_z
  have hwz := W.z
  have hst := state_ok (x0 := y0) (x1 := y1) Q W hn H hL
  obtain ⟨sr, er⟩ := rp_told1 (ts := ts) (as := as) (by omega) (by omega) W.ab W.t
  have er : bReprI [.tup (as.map An.d)] = some (.str sr) := er
  have hbt : bTuple [.lst (as.map An.d)] = some (.tup (as.map An.d)) := rfl
  repeat' walk_at "rf"
  refine hst.mono ?_
  rintro _ _ ⟨rfl, G, rfl⟩
  obtain ⟨l, a, r, e, hins⟩ := (Q.pre G).ins y0 y1
  have et := (Q.pre G).told (x0 := y0) (x1 := y1)
  repeat' walk_at "rf"
  · exact absurd rfl (by with_reducible assumption)
  · exact fin G
end
end
section
variable {n : Nat} {x0 x1 : O} {T : Sto} {o : Nat} {ts : List Th} {as : List An}
section
local macro_rules | `(tactic| walk_at "rf") => `(tactic| first | (with_reducible exact rfl) | fail)
local macro_rules | `(tactic| walk_at "rf") => `(tactic| first | ((with_reducible refine anG ?_); ((with_reducible refine And.intro ?_ ?_); (· with_reducible assumption))) | ((with_reducible refine anG ?_); ((with_reducible refine And.intro ?_ ?_); exact Nat.le_of_ble_eq_true rfl)) | fail)
local macro_rules | `(tactic| walk_at "rf") => `(tactic| first | ((with_reducible refine anG ?_); ((with_reducible refine r_dec (fun ht => ?_) (fun ht => ?_)) <;> first | (exfalso; omega) | skip)) | ((with_reducible refine anG ?_); ((with_reducible refine And.intro ?_ ?_); exact rfl)) | fail)
local macro_rules | `(tactic| walk_at "rf") => `(tactic| first | ((with_reducible refine anG ?_); ((with_reducible apply r_isT); (· first | with_reducible assumption | exact rfl))) | ((with_reducible refine anG ?_); ((with_reducible apply r_isF); (· first | with_reducible assumption | exact rfl))) | fail)
local macro_rules | `(tactic| walk_at "rf") => `(tactic| first | ((with_reducible refine exG ?_); (with_reducible refine g_op ?_)) | ((with_reducible refine exG ?_); ((with_reducible apply Exists.intro); (fail_if_success (with_reducible refine g_og ?_ ?_)); (fail_if_success (with_reducible refine repG ?_)); (repeat (with_reducible apply Exists.intro)); refine And.intro rfl ?_)) | fail)
local macro_rules | `(tactic| walk_at "rf") => `(tactic| first | ((with_reducible refine exG ?_); ((with_reducible apply g_rng1); (· exact rfl); (· constructor <;> omega))) | ((with_reducible refine exG ?_); ((with_reducible apply g_as); (· with_reducible assumption))) | fail)
local macro_rules | `(tactic| walk_at "rf") => `(tactic| first | ((with_reducible refine wpG ?_); ((with_reducible apply w_draw3); (· assumption); (· first | decide | omega); (· first | decide | assumption | exact Nat.lt_of_lt_of_le (lgi (k := 64) (by omega) (by decide)) (by decide)); intro r x0 x1 h0 h1 hd)) | ((with_reducible refine wsG ?_); (with_reducible refine Ws.imp ?_)) | fail)
local macro_rules | `(tactic| walk_at "rf") => `(tactic| first | ((with_reducible refine lsG ?_); (intro L' hL'; (try simp only [List.set_cons_zero, List.set_cons_succ] at hL'); subst hL')) | ((with_reducible refine wpG ?_); (with_reducible refine Wp.imp ?_)) | fail)
local macro_rules | `(tactic| walk_at "rf") => `(tactic| first | (with_reducible refine stopL_in ?_) | (with_reducible refine stE26 ?_) | fail)
local macro_rules | `(tactic| walk_at "rf") => `(tactic| first | (with_reducible refine wp_dD ?_) | ((with_reducible apply g_ins); (· with_reducible assumption)) | fail)
local macro_rules | `(tactic| walk_at "rf") => `(tactic| first | ((with_reducible apply g_repI); (· with_reducible assumption); (· exact rfl)) | (with_reducible refine stopLc ?_) | fail)
theorem tail_ok {k m : Nat} {T : Sto} {y0 y1 : O} {ns : List Int} (hk2 : 2 ≤ k) (hk6 : k ≤ 6) (hd : DkE (100 + 3000 * m + 2000) y0 y1) {j : Int} {z4 z5 z6 z7 z8 z9 z10 z11 z12 z13 : LV} {PS : Fl → Ls → Sto → Prop}
    (fin : ∀ (T' : Sto) (u0 u1 : O) (z4 z5 z6 z7 z8 z9 z10 z11 z12 z13 : LV), DkE (100 + 3000 * m) u0 u1 → PS .nx [.v (.scr ns), .v (.obj 1), .v (.int j), .v (nD k), z4, z5, z6, z7, z8, z9, z10, z11, z12, z13] (u0 :: u1 :: T')) :
    @wps noXP (rT26 [.v (.scr ns), .v (.obj 1), .v (.int j), .v (nD k), z4, z5, z6, z7, z8, z9, z10, z11, z12, z13] (y0 :: y1 :: T)) PS := by
  have hz := sl_z
  repeat' walk_at "rf"
  refine (things_k (n := 100 + 3000 * m + 900) (show k ≤ 20 by omega) (hd.le (by omega))).mono fun d S' ⟨w0, w1, ts, hS, hd2, hdd, htl, hts⟩ => ?_
  subst hS hdd
  have htn : ts.length ≤ 14 := by omega
  have W0 : Wd ts [] := ⟨hts.h, by omega, htn, fun x hx => (by cases hx), fun x hx => (by cases hx), by decide⟩
  repeat' walk_at "rf"
  generalize T ++ [O.lst (List.map Th.d ts)] = T1
  refine (divs_ok (n := k) (by omega)).mono ?_
  rintro _ _ ⟨rfl, rfl⟩
  repeat' walk_at "rf"
  unfold stopL
  have hfew := dvs_few k hk6
  have hts2 := W0.ths.ok
  refine lc_flt (f := rowD) (g := rowD) (p := possB ts) (dvs k) (by omega) ?_ ?_
  · intro r hr
    have hrl : r.length = ts.length := by rw [(dvs_len hr).1]; omega
    have hp := possible_ok (S := w0 :: w1 :: T1) hts2 (by omega) W0.p3 hrl
    refine ⟨_, rfl, ?_⟩
    cases hb : possB ts r with
    | true =>
      rw [hb] at hp
      repeat' walk_at "rf"
      refine hp.mono ?_
      rintro _ _ ⟨rfl, rfl⟩
      repeat' walk_at "rf"
      intro _
      repeat' walk_at "rf"
    | false =>
      rw [hb] at hp
      repeat' walk_at "rf"
      refine hp.mono ?_
      rintro _ _ ⟨rfl, rfl⟩
      repeat' walk_at "rf"
      intro h
      cases h
  have H0 := rows0 hts2
  have hH : ts.length = k := by omega
  rw [hH] at H0
  have hLl : ((dvs k).filter (possB ts)).length ≤ 203 := Nat.le_trans (List.length_filter_le _ _) hfew
  generalize (dvs k).filter (possB ts) = L at H0 hLl
  repeat' walk_at "rf"
  refine (Ss.new (T := T1) (x0 := w0) (x1 := w1) htn).mono ?_
  rintro d _ ⟨rfl, G, rfl, Q⟩
  refine ⟨rfl, ?_⟩
  rw [show (w0 :: w1 :: T1).length = T1.length + 2 from rfl]
  generalize T1.length + 2 = o at Q ⊢
  generalize T1 ++ G = T2 at Q ⊢
  subst hH
  repeat' walk_at "rf"
  refine (state_ok Q W0 hk6 H0 hLl).mono ?_
  rintro _ _ ⟨rfl, G2, rfl⟩
  repeat' walk_at "rf"
  rename_i r u0 u1 hr0 hr1 hd3
  clear hd hd2
  unfold stopL
  refine wps_rng (fun c m' L' S' => Iv (∃ (as : List An) (L : List (List Nat)) (y0 y1 : O) (T' : Sto) (z6 z9 z10 z11 z12 z13 : LV), L' = [.v (.scr ns), .v (.obj 1), .v (.int j), .v (nD ts.length), .v (.tup (ts.map Th.d)), .v (.lst (L.map rowD)), z6, .v (.obj o), .o (.lst (as.map An.d)), z9, z10, z11, z12, z13] ∧ S' = y0 :: y1 :: T' ∧ as.length + m' ≤ 6 ∧ DkE (100 + 3000 * m + 6 * m') y0 y1 ∧ Ss T' o ts as ∧ Wd ts as ∧ RowsOk ts as L ∧ L.length ≤ 203)) ?_ ?_ _ _ _ _ ⟨[], L, u0, u1, T2 ++ G2, _, _, _, _, _, _, rfl, rfl, by simp only [List.length_nil]; omega, hd3.le (by omega), Q.pre G2, W0, H0, hLl⟩
  · rintro c m' L' S' ⟨as, L, y0, y1, T', z6, z9, z10, z11, z12, z13, rfl, rfl, hz6, hd, Q, W, H, hLl⟩
    refine tgX _ rfl ?_
    repeat' walk_at "rf"
    refine (pair_ok (n := 100 + 3000 * m + 6 * m' + 2) (by omega) (fun h => by have := W.n0; rw [h] at this; cases this) W.ths (hd.le (by omega))).mono ?_
    rintro _ _ ⟨w0, w1, p, q, rfl, hd2, rfl, hp, hq⟩
    have hd3 : DkE ((100 + 3000 * m + 6 * m' + 1) + 1) w0 w1 := hd2
    repeat' walk_at "rf"
    rename_i r2 v0 v1 h2 h3 hd4
    generalize hzz : (if decide (0 < r2) = true then (1 : Int) else 0) = z
    have h01 : z = 0 ∨ z = 1 := by
      rw [← hzz]
      split
      · exact .inr rfl
      · exact .inl rfl
    clear hzz
    have hrl : ∀ r ∈ L, r.length = ts.length := fun r h => (dvs_len ((H r).mp h).1).1
    have hLz : L.length < sizeLine := by omega
    unfold stopL
    refine lc_flt (f := rowD) (g := rowD) (p := fun r => decide (r.getD p 0 = r.getD q 0) == decide (z = 1)) L hLz ?_ ?_
    · intro r hrr
      have g1 : oIx (.lst (r.map nD)) (nD p) = some (nD (r.getD p 0)) := row_at (by rw [hrl r hrr]; exact hp)
      have g2 : oIx (.lst (r.map nD)) (nD q) = some (nD (r.getD q 0)) := row_at (by rw [hrl r hrr]; exact hq)
      refine ⟨_, rfl, ?_⟩
      show wp _ fun b S1 => b = (decide (r.getD p 0 = r.getD q 0) == decide (z = 1)) ∧ S1 = _ ∧ ((decide (r.getD p 0 = r.getD q 0) == decide (z = 1)) = true → _)
      generalize r.getD p 0 = u at g1 ⊢
      generalize r.getD q 0 = v at g2 ⊢
      repeat' walk_at "rf"
      refine ⟨by rw [show decide ((u : Int) = (v : Int)) = decide (u = v) from decide_eq_decide.mpr Int.ofNat_inj], rfl, fun _ => ?_⟩
      repeat' walk_at "rf"
    have H2 := left_ok H h01 hp hq
    have hL2 : (L.filter fun r => decide (r.getD p 0 = r.getD q 0) == decide (z = 1)).length ≤ 203 := Nat.le_trans (List.length_filter_le _ _) hLl
    generalize (L.filter fun r => decide (r.getD p 0 = r.getD q 0) == decide (z = 1)) = L2 at H2 hL2
    intro L' hL'
    subst hL'
    have hce := cEq_rows L2
    have hw : ∀ i, i < ts.length → ∀ p ∈ (thg ts i).pts, p < ts.length := fun i hi y hy => Th.ok_pts hts2 i hi y hy
    have W2 := W.app hp hq h01 (by omega)
    have hag := rows_ag H2 hts2 hw W2.ab
    obtain ⟨l, a, r, e, hins⟩ := Q.ins v0 v1
    have hlz : (as.map An.d).length < sizeLine := by rw [List.length_map]; omega
    by_cases hL0 : L2 = []
    · rw [decide_eq_true hL0] at hce
      have hcl := clash_ok (x0 := v0) (x1 := v1) Q W hp hq h01 (fun h => hag.mpr h hL0)
      repeat' walk_at "rf"
      refine hcl.mono ?_
      rintro _ _ ⟨rfl, G2, rfl⟩
      repeat' walk_at "rf"
      unfold stopL
      refine re_ok (Q.pre G2) W hk6 H hLl ?_
      intro G3
      show Iv _
      exact ⟨as, L, v0, v1, T' ++ G2 ++ G3, _, _, _, _, _, _, rfl, rfl, by omega, hd4.le (by omega), (Q.pre G2).pre G3, W, H, hLl⟩
    · rw [decide_eq_false hL0] at hce
      have htl := Q.tlV (x0 := v0) (x1 := v1) W hp hq h01 (hag.mp hL0)
      have hlen : bLen [.lst ((as ++ [(⟨p, q, z⟩ : An)]).map An.d)] = some (nD (as.length + 1)) := by
        show some (D.int (((as ++ [(⟨p, q, z⟩ : An)]).map An.d).length : Nat)) = _
        rw [List.length_map, List.length_append]; rfl
      obtain ⟨sx, hsx⟩ := rp_nat (k := as.length + 1) (by omega) (by omega)
      repeat' walk_at "rf"
      rw [mapAn_app]
      have hsx2 : bReprI [.int ((((as ++ [(⟨p, q, z⟩ : An)]).map An.d).length : Nat) : Int)] = some (.str sx) := by
        rw [List.length_map, List.length_append]; exact hsx
      refine htl.mono ?_
      rintro _ _ ⟨rfl, T2, rfl, Q2⟩
      repeat' walk_at "rf"
      · exact absurd rfl (by with_reducible assumption)
      unfold stopL
      refine re_ok Q2 W2 hk6 H2 hL2 ?_
      intro G3
      show Iv _
      exact ⟨as ++ [⟨p, q, z⟩], L2, v0, v1, T2 ++ G3, _, _, _, _, _, _, rfl, rfl, by rw [List.length_append, List.length_singleton]; omega, hd4.le (by omega), Q2.pre G3, W2, H2, hL2⟩
  · rintro c L' S' ⟨as, L, y0, y1, T', z6, z9, z10, z11, z12, z13, rfl, rfl, hz6, hd, Q, W, H, hLl⟩
    repeat' walk_at "rf"
    exact fin _ _ _ _ _ _ _ _ _ _ _ _ _ (hd.le (by omega))
end
end
end Rf
set_option Elab.async false
set_option linter.all false
set_option maxRecDepth 100000
set_option maxHeartbeats 0
namespace Rf
open PySem PySem.Spec PyProof.Rows L2 TL Rf
open Lw
section
section
local macro_rules | `(tactic| walk_at "rf") => `(tactic| first | ((with_reducible refine anG ?_); ((with_reducible refine r_dec (fun ht => ?_) (fun ht => ?_)) <;> first | (exfalso; omega) | skip)) | (with_reducible exact rfl) | fail)
local macro_rules | `(tactic| walk_at "rf") => `(tactic| first | ((with_reducible refine exG ?_); (with_reducible refine g_op ?_)) | ((with_reducible refine exG ?_); ((with_reducible apply Exists.intro); (fail_if_success (with_reducible refine g_og ?_ ?_)); (fail_if_success (with_reducible refine repG ?_)); (repeat (with_reducible apply Exists.intro)); refine And.intro rfl ?_)) | fail)
local macro_rules | `(tactic| walk_at "rf") => `(tactic| first | ((with_reducible refine wsG ?_); (with_reducible refine Ws.imp ?_)) | ((with_reducible refine exG ?_); ((with_reducible apply g_rng1); (· exact rfl); (· constructor <;> omega))) | fail)
local macro_rules | `(tactic| walk_at "rf") => `(tactic| first | ((with_reducible refine wpG ?_); (with_reducible refine Wp.imp ?_)) | ((with_reducible refine wpG ?_); ((with_reducible apply w_draw3); (· assumption); (· first | decide | omega); (· first | decide | assumption | exact Nat.lt_of_lt_of_le (lgi (k := 64) (by omega) (by decide)) (by decide)); intro r x0 x1 h0 h1 hd)) | fail)
local macro_rules | `(tactic| walk_at "rf") => `(tactic| first | (with_reducible refine stopL_in ?_) | ((with_reducible refine lsG ?_); (intro L' hL'; (try simp only [List.set_cons_zero, List.set_cons_succ] at hL'); subst hL')) | fail)
local macro_rules | `(tactic| walk_at "rf") => `(tactic| first | (with_reducible refine stT26 ?_) | ((with_reducible apply wp.eq); (· with_reducible assumption)) | fail)
theorem _root_.Lw.law_true (ns : List Int) (hns : ns.length ≤ 63) : ∃ S, c_law [.scr ns] [] = .ok (.bl true) S := by
  obtain ⟨S0, e0, hd0⟩ := deck_new hns (n := 100000) (by decide)
  obtain ⟨y0, y1, rfl, hd0⟩ := hd0.cut
  have ed : c__law_deck [.scr ns] [] = .ok (.obj 1) [y0, y1] := e0
  suffices h : @wp noXP _ (c_law [.scr ns] []) fun d S => d = .bl true by
    obtain ⟨d, S', e, h⟩ := h.ex
    exact ⟨S', by rw [e, h]⟩
  apply u_law
  have hdE := hd0.e
  repeat' walk_at "rf"
  clear hd0 ed e0
  unfold stopL
  refine wps_rng (fun j m L S => Iv (∃ (T : Sto) (y0 y1 : O) (z2 z3 z4 z5 z6 z7 z8 z9 z10 z11 z12 z13 : LV), S = y0 :: y1 :: T ∧ DkE (100 + 3000 * m) y0 y1 ∧ L = [.v (.scr ns), .v (.obj 1), z2, z3, z4, z5, z6, z7, z8, z9, z10, z11, z12, z13])) ?_ ?_ _ _ _ _ ⟨[], _, _, _, _, _, _, _, _, _, _, _, _, _, _, rfl, hdE.le (by show 100 + 3000 * 4 ≤ 100000; decide), rfl⟩
  · rintro j m L S ⟨T, y0, y1, z2, z3, z4, z5, z6, z7, z8, z9, z10, z11, z12, z13, rfl, hd, rfl⟩
    clear hdE
    have hz := sl_z
    have hdA : DkE ((100 + 3000 * m + 2000) + 999 + 1) y0 y1 := hd.le (by omega)
    refine tgX _ rfl ?_
    have fin : ∀ (T' : Sto) (u0 u1 : O) (k : Nat) (z4 z5 z6 z7 z8 z9 z10 z11 z12 z13 : LV), DkE (100 + 3000 * m) u0 u1 → Iv (∃ (T : Sto) (y0 y1 : O) (z2 z3 z4' z5' z6' z7' z8' z9' z10' z11' z12' z13' : LV), u0 :: u1 :: T' = y0 :: y1 :: T ∧ DkE (100 + 3000 * m) y0 y1 ∧ [LV.v (.scr ns), .v (.obj 1), .v (.int j), .v (nD k), z4, z5, z6, z7, z8, z9, z10, z11, z12, z13] = [.v (.scr ns), .v (.obj 1), z2, z3, z4', z5', z6', z7', z8', z9', z10', z11', z12', z13']) := fun T' u0 u1 k z4 z5 z6 z7 z8 z9 z10 z11 z12 z13 h => ⟨T', u0, u1, _, _, _, _, _, _, _, _, _, _, _, _, rfl, h, rfl⟩
    repeat' walk_at "rf"
    · rename_i r v0 v1 h1 h2 hd1
      obtain ⟨k, rfl⟩ : ∃ k : Nat, r = (k : Int) := ⟨r.toNat, by omega⟩
      rw [show (2 : Int) + (k : Int) = ((2 + k : Nat) : Int) by omega]
      unfold stopL
      refine tail_ok (k := 2 + k) (m := m) (by omega) (by omega) (hd1.le (by omega)) ?_
      intro T' u0 u1 z4 z5 z6 z7 z8 z9 z10 z11 z12 z13 hk
      exact fin _ _ _ _ _ _ _ _ _ _ _ _ _ _ hk
    · unfold stopL
      refine tail_ok (k := 6) (m := m) (by omega) (by omega) (hd.le (by omega)) ?_
      intro T' u0 u1 z4 z5 z6 z7 z8 z9 z10 z11 z12 z13 hk
      exact fin _ _ _ _ _ _ _ _ _ _ _ _ _ _ hk
  · rintro j L S ⟨T, y0, y1, z2, z3, z4, z5, z6, z7, z8, z9, z10, z11, z12, z13, rfl, hd, rfl⟩
    repeat' walk_at "rf"
end
end
end Rf
set_option Elab.async false
set_option linter.all false
set_option maxRecDepth 100000
set_option maxHeartbeats 0
theorem PySem.Challenge.cw_maybesame_k26_whole_same_in_every_divisi_holds : PySem.Challenge.rw_maybesame_k26_whole_same_in_every_divisi.Holds :=
  Lw.cw_of Lw.law_true

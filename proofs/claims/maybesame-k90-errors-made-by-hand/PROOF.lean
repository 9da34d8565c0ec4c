import PyProof.Rows.All
import Wide.All
import OpenK.AllK
import Wide.FinOn
import HandS.ForMost
import HandS.ForExc
import HandS.Defaults
import HandS.CallSlots
import HandS.TryOnly
import HandS.Zip
import HandS.Wide
import HandS.IsInst
import HandS.Style
import KE.KeyNested
import HandS.TupAny
import HandS.TupMul
import HandS.WideBits
import HandS.SortInts
import KE.GoesEnum
import HandS.Head0
import HandS.Head1
import HandS.Head2
import HandS.HeadEnd
import HandS.HeadHook1
import HandS.HeadHook2
import HandS.HeadHook3
import HandS.HeadHook4
import HandS.FStr
import HandS.RaiseMore
import HandS.SetBool
import HandS.SetTxt0
import PyProof.Rows.SortShellAny
import HandS.Strs
import HandS.ExcField
import HandS.ExcIs
import HandS.TryMany
import HandS.Conv
import HandS.TupLe
import HandS.TupSets
import HandS.Keys
import HandS.FltList
import HandS.SetKeys
import HandS.Nested
import KE.KSuper
import PyProof.ReprRoads
import HandS.Small
import HandS.More
import HandS.Deep
import PyProof.EqKinds
import PyProof.Rows.IntBool
import PyProof.P3In
import HandS.New0
import HandS.WordsDict
import HandS.Star
import KE.KExcInit
import HandS.ExcInit
import HandS.ExcValue
import PySem.Challenge.RW_maybesame_k90_errors_made_by_hand
set_option Elab.async false
set_option linter.all false
set_option maxRecDepth 100000
namespace Rf
open PySem L2
/-- a value as a tree; lists and dicts here are never changed again; what is changed through aliases stands in the store, by its number -/
inductive D where
  | non | bl (b : Bool) | int (i : Int) | str (x : List Nat)
  | tup (xs : List D) | lst (xs : List D)
  | obj (n : Nat) | gl (x : Str) | ty (n : String)
  /-- the law's script -/
  | scr (xs : List Int)
  /-- an empty dict, an exception of the class named c, its own attributes named ns; both never changed again -/
  | edc | ins (c : Str) (ns : List Str) (xs : List D)
  deriving Inhabited
/-- what may be changed -/
inductive O where
  | lst (xs : List D)
  /-- dicts with keys that are ints and texts, with keys that are tuples of these; an instance -/
  | dK (kvs : List (Key × D)) | dT (kvs : List (List Key × D)) | ins (c : Str) (ns : List Str) (xs : List D)
  /-- a dict whose keys are tuples of ints, texts, None and such tuples -/
  | dN (kvs : List (NestedKey × D))
  deriving Inhabited
structure Exn where
  cls : Str
  fs : List (Str × D)
/-- a result: a value and the store, an exception, or nothing is known -/
inductive R (α : Type) where
  | ok (a : α) (S : List O)
  | ex (x : Exn) (S : List O)
  | no
@[reducible] def R.bind {α β : Type} (r : R α) (f : α → List O → R β) : R β := match r with
  | .ok a S => f a S
  | .ex x S => .ex x S
  | .no => .no
/-- a local: nothing, a value, an object of the frame's own -/
inductive LV where
  | un | v (d : D) | o (o : O)
  /-- the exception that the suite holds -/
  | exc (x : Exn)
  deriving Inhabited
abbrev Ls := List LV
abbrev Sto := List O
abbrev EM := Ls → Sto → R D
/-- ghost: what is never written again, where the store's objects stand, how many they are -/
structure G where
  F : Addr → Prop
  ρ : Nat → Addr
  n : Nat
def KLst (K : PySem.W.Frag) (a : Addr) (xs : List V) : Prop :=
  ∃ (o : Obj) (its : Array Value) (n : Nat), K.lookup a = some o ∧ o.cls = .type "list" ∧ o.dict = none ∧ o.data = .seq its n ∧ its.size ≤ sizeLine ∧ Vals xs its.toList
/-- a list that is known to its object or stands in the written part -/
def ScrAt (K : PySem.W.Frag) (H : Hp) (a : Addr) (vs : List V) : Prop := (∃ o, H a = some (.frz o (.lst vs))) ∨ KLst K a vs
theorem ScrAt.sq {K : PySem.W.Frag} {H : Hp} {a : Addr} {vs : List V} (h : ScrAt K H a vs) : SqL K H a vs := by
  rcases h with ⟨o, h⟩ | h
  · exact .inl (.inr ⟨o, h⟩)
  · exact .inr h
/-- a tuple -/
def TupAt (K : PySem.W.Frag) (H : Hp) (a : Addr) (vs : List V) : Prop := H a = some (.tup vs) ∨
  (∃ (o : Obj) (its : Array Value) (n : Nat), K.lookup a = some o ∧ o.cls = .type "tuple" ∧ o.data = .seq its n ∧ its.size ≤ sizeLine ∧ Vals vs its.toList) ∧ ((∃ v ∈ vs, ∀ i, v ≠ V.int i) ∨ vs = [])
theorem TupAt.sq {K : PySem.W.Frag} {H : Hp} {a : Addr} {vs : List V} (h : TupAt K H a vs) : SqT K H a vs := h.elim (fun h => .inl (.inl h)) fun h => .inr h.1
/-- what does not change: the written part, the module's names -/
structure Kx where
  K : PySem.W.Frag
  mg : Str → Option Value
  /-- the exception that the suite holds -/
  cur : Option (Addr × Obj)
  w : World
abbrev k0 (K : PySem.W.Frag) (mg : Str → Option Value) (w : World) : Kx := ⟨K, mg, none, w⟩
def KTup (K : PySem.W.Frag) (H : Hp) (a : Addr) (vs : List V) : Prop := H a = some (.tup vs) ∨
  ∃ (o : Obj) (its : Array Value) (n : Nat), K.lookup a = some o ∧ o.cls = .type "tuple" ∧ o.data = .seq its n ∧ its.size ≤ sizeLine ∧ Vals vs its.toList
theorem KTup.sq {K : PySem.W.Frag} {H : Hp} {a : Addr} {vs : List V} (h : KTup K H a vs) : SqT K H a vs := h.elim (fun h => .inl (.inl h)) fun h => .inr h
mutual
def KIs (K : PySem.W.Frag) (H : Hp) : NestedKey → V → Prop
  | .none, v => v = .non
  | .num i, v => v = .int i
  | .text x, v => v = .str x
  | .tup ks, v => ∃ a vs, v = .ref a ∧ KTup K H a vs ∧ KIsL K H ks vs
def KIsL (K : PySem.W.Frag) (H : Hp) : List NestedKey → List V → Prop
  | [], vs => vs = []
  | k :: ks, vs => ∃ v r, vs = v :: r ∧ KIs K H k v ∧ KIsL K H ks r
end
mutual
theorem KIs.at {K : PySem.W.Frag} {H H' : Hp} (h : ∀ a xs, H a = some (.tup xs) → H' a = some (.tup xs)) : ∀ (k : NestedKey) (v : V), KIs K H k v → KIs K H' k v
  | .none, _, q => q
  | .num _, _, q => q
  | .text _, _, q => q
  | .tup ks, _, ⟨a, vs, e, t, r⟩ => ⟨a, vs, e, t.elim (fun t => .inl (h _ _ t)) .inr, KIsL.at h ks vs r⟩
theorem KIsL.at {K : PySem.W.Frag} {H H' : Hp} (h : ∀ a xs, H a = some (.tup xs) → H' a = some (.tup xs)) : ∀ (ks : List NestedKey) (vs : List V), KIsL K H ks vs → KIsL K H' ks vs
  | [], _, q => q
  | k :: ks, _, ⟨v, r, e, h1, h2⟩ => ⟨v, r, e, KIs.at h k v h1, KIsL.at h ks r h2⟩
end
/-- an entry: the key, where its tuple stands, the value -/
abbrev NEnt := List (NestedKey × Addr × V)
def nEs (w : World) : NEnt → List Value → List DictEntry
  | [], _ => []
  | _ :: _, [] => []
  | e :: es, u :: us => ⟨e.1.hash w, .ref e.2.1, u⟩ :: nEs w es us
/-- the dict with these entries stands at a -/
def NDx (w : World) (a : Addr) (es : NEnt) : HO := .ext fun h => es.length ≤ sizeLine ∧ (a == sysModules) = false ∧ ∃ (us : List Value) (o : Obj) (des : Array DictEntry) (ep : Nat),
  Vals (es.map (·.2.2)) us ∧ h.get? a = some o ∧ o.ExactDict ∧ o.data = .dict des ep ∧ des.toList = nEs w es us
def NKeys (K : PySem.W.Frag) (H : Hp) (es : NEnt) : Prop := ∀ e ∈ es, KIs K H e.1 (.ref e.2.1) ∧ e.1.depth ≤ 8
theorem NKeys.at {K : PySem.W.Frag} {H H' : Hp} (h : ∀ a xs, H a = some (.tup xs) → H' a = some (.tup xs)) {es : NEnt} (r : NKeys K H es) : NKeys K H' es := fun e he => ⟨KIs.at h _ _ (r e he).1, (r e he).2⟩
/-- an exception held as a value stands at a: of the class at C, its own dict at d -/
def ErrO (a C : Addr) (d : Option Addr) : HO := .ext fun h => ∃ (ox : Obj) (fv : Array Value), h.get? a = some ox ∧ ox.cls = .ref C ∧ ox.dict = d ∧ ox.data = .fields fv
section
variable (k : Kx) (H : Hp) (g : G)
mutual
def Rep : D → V → Prop
  | .non, v => v = .non
  | .bl b, v => v = .bl b
  | .int i, v => v = .int i
  | .str x, v => v = .str ⟨x.toArray⟩
  | .tup ds, v => ∃ a vs, v = .ref a ∧ TupAt k.K H a vs ∧ RepL ds vs
  | .lst ds, v => ∃ a vs, v = .ref a ∧ g.F a ∧ H a = some (.lst vs) ∧ RepL ds vs
  | .obj n, v => n < g.n ∧ v = .ref (g.ρ n)
  | .gl x, v => ∃ a, k.mg x = some (.ref a) ∧ v = .ref a
  | .ty n, v => v = .ty n
  | .scr ns, v => ∃ a, v = .ref a ∧ ScrAt k.K H a (ns.map V.int)
  | .edc, v => ∃ a, v = .ref a ∧ g.F a ∧ H a = some (.dK [])
  | .ins c ns ds, v => ∃ a C d vs, v = .ref a ∧ g.F a ∧ k.mg c = some (.ref C) ∧ H a = some (ErrO a C d) ∧ RepL ds vs ∧ ((d = none ∧ ns = []) ∨ ∃ dd, d = some dd ∧ g.F dd ∧ H dd = some (.xd (ns.zip vs)))
def RepL : List D → List V → Prop
  | [], vs => vs = []
  | d :: ds, vs => ∃ v r, vs = v :: r ∧ Rep d v ∧ RepL ds r
end
/-- an object of the store, of a frame -/
def ORep : O → Addr → Prop
  | .lst ds, a => ∃ vs, H a = some (.lst vs) ∧ RepL k H g ds vs
  | .dK kvs, a => ∃ vs, H a = some (.dK ((kvs.map (·.1)).zip vs)) ∧ RepL k H g (kvs.map (·.2)) vs
  | .dT kvs, a => ∃ vs, H a = some (.dT ((kvs.map (·.1)).zip vs)) ∧ RepL k H g (kvs.map (·.2)) vs
  | .ins c ns ds, a => ∃ C dx vs, k.mg c = some (.ref C) ∧ H a = some (.ins C dx (ns.zip vs)) ∧ RepL k H g ds vs
  | .dN kvs, a => ∃ es, H a = some (NDx k.w a es) ∧ es.map (·.1) = kvs.map (·.1) ∧ (kvs.map (·.1)).Nodup ∧ NKeys k.K H es ∧ RepL k H g (kvs.map (·.2)) (es.map (·.2.2))
end
/-- what stands stays -/
structure PExt (H : Hp) (g : G) (H' : Hp) (g' : G) : Prop where
  F : ∀ a, g.F a → g'.F a
  kF : ∀ a o, g.F a → H a = some o → H' a = some o
  kT : ∀ a xs, H a = some (.tup xs) → H' a = some (.tup xs)
  kZ : ∀ a o u, H a = some (.frz o u) → H' a = some (.frz o u)
  n : g.n ≤ g'.n
  ρ : ∀ i, i < g.n → g'.ρ i = g.ρ i
/-- .. and nothing but the store's objects is changed -/
structure Ext (H : Hp) (g : G) (H' : Hp) (g' : G) : Prop extends PExt H g H' g' where
  keep : ∀ a o, H a = some o → (∀ i, i < g.n → g.ρ i ≠ a) → H' a = some o
  newF : ∀ a, g'.F a → g.F a ∨ H a = none
  newρ : ∀ i, g.n ≤ i → i < g'.n → H (g'.ρ i) = none
  tr : ∀ a o, H a = some o → ∃ u, H' a = some u
theorem PExt.refl (H : Hp) (g : G) : PExt H g H g := ⟨fun _ h => h, fun _ _ _ h => h, fun _ _ h => h, fun _ _ _ h => h, Nat.le_refl _, fun _ _ => rfl⟩
theorem PExt.trans {H H1 H2 : Hp} {g g1 g2 : G} (a : PExt H g H1 g1) (b : PExt H1 g1 H2 g2) : PExt H g H2 g2 :=
  ⟨fun x h => b.F x (a.F x h), fun x o f h => b.kF x o (a.F x f) (a.kF x o f h), fun x xs h => b.kT x xs (a.kT x xs h), fun x o u h => b.kZ x o u (a.kZ x o u h), Nat.le_trans a.n b.n,
    fun i h => (b.ρ i (Nat.lt_of_lt_of_le h a.n)).trans (a.ρ i h)⟩
theorem Ext.refl (H : Hp) (g : G) : Ext H g H g := ⟨PExt.refl H g, fun _ _ h _ => h, fun _ h => .inl h, fun i h1 h2 => absurd h2 (Nat.not_lt.mpr h1), fun _ o h => ⟨o, h⟩⟩
theorem Ext.trans {H H1 H2 : Hp} {g g1 g2 : G} (a : Ext H g H1 g1) (b : Ext H1 g1 H2 g2) : Ext H g H2 g2 where
  toPExt := a.toPExt.trans b.toPExt
  keep := fun x o h hn => b.keep x o (a.keep x o h hn) fun i hi e => by
    by_cases h1 : i < g.n
    · exact hn i h1 ((a.ρ i h1).symm.trans e)
    · have z := a.newρ i (Nat.le_of_not_lt h1) hi
      rw [e, h] at z; cases z
  newF := fun x h => by
    rcases b.newF x h with h | h
    · exact a.newF x h
    · cases q : H x with
      | none => exact .inr rfl
      | some o => obtain ⟨u, z⟩ := a.tr x o q; rw [h] at z; cases z
  newρ := fun i h1 h2 => by
    by_cases h3 : i < g1.n
    · rw [b.ρ i h3]; exact a.newρ i h1 h3
    · have z := b.newρ i (Nat.le_of_not_lt h3) h2
      cases q : H (g2.ρ i) with
      | none => rfl
      | some o => obtain ⟨u, y⟩ := a.tr _ o q; rw [z] at y; cases y
  tr := fun x o h => by
    obtain ⟨u, h⟩ := a.tr x o h
    exact b.tr x u h
section
variable {k : Kx} {H H' : Hp} {g g' : G}
theorem tupAt_mono (e : PExt H g H' g') {a : Addr} {vs : List V} (h : TupAt k.K H a vs) : TupAt k.K H' a vs := by
  rcases h with h | h
  · exact .inl (e.kT _ _ h)
  · exact .inr h
theorem scrAt_mono (e : PExt H g H' g') {a : Addr} {vs : List V} (h : ScrAt k.K H a vs) : ScrAt k.K H' a vs := by
  rcases h with ⟨o, h⟩ | h
  · exact .inl ⟨o, e.kZ _ _ _ h⟩
  · exact .inr h
mutual
theorem Rep.mono (e : PExt H g H' g') : ∀ (d : D) (v : V), Rep k H g d v → Rep k H' g' d v
  | .non, _, h => h
  | .bl _, _, h => h
  | .int _, _, h => h
  | .str _, _, h => h
  | .tup ds, _, ⟨a, vs, h1, h2, h3⟩ => ⟨a, vs, h1, tupAt_mono e h2, RepL.mono e ds vs h3⟩
  | .lst ds, _, ⟨a, vs, h1, h2, h3, h4⟩ => ⟨a, vs, h1, e.F _ h2, e.kF _ _ h2 h3, RepL.mono e ds vs h4⟩
  | .obj n, _, ⟨h1, h2⟩ => ⟨Nat.lt_of_lt_of_le h1 e.n, by rw [h2, e.ρ n h1]⟩
  | .gl _, _, h => h
  | .ty _, _, h => h
  | .scr _, _, ⟨a, h1, h2⟩ => ⟨a, h1, scrAt_mono e h2⟩
  | .edc, _, ⟨a, h1, h2, h3⟩ => ⟨a, h1, e.F _ h2, e.kF _ _ h2 h3⟩
  | .ins _ _ ds, _, ⟨a, C, d, vs, h1, h2, h3, h4, h5, h6⟩ => ⟨a, C, d, vs, h1, e.F _ h2, h3, e.kF _ _ h2 h4, RepL.mono e ds vs h5, h6.imp id fun ⟨dd, q1, q2, q3⟩ => ⟨dd, q1, e.F _ q2, e.kF _ _ q2 q3⟩⟩
theorem RepL.mono (e : PExt H g H' g') : ∀ (ds : List D) (vs : List V), RepL k H g ds vs → RepL k H' g' ds vs
  | [], _, h => h
  | d :: ds, _, ⟨v, r, h1, h2, h3⟩ => ⟨v, r, h1, Rep.mono e d v h2, RepL.mono e ds r h3⟩
end
mutual
theorem Rep.kc {k k' : Kx} (h1 : k'.K = k.K) (h2 : k'.mg = k.mg) : ∀ (d : D) (v : V), Rep k H g d v → Rep k' H g d v
  | .non, _, h => h
  | .bl _, _, h => h
  | .int _, _, h => h
  | .str _, _, h => h
  | .tup ds, _, ⟨a, vs, e1, e2, e3⟩ => ⟨a, vs, e1, by rw [h1]; exact e2, RepL.kc h1 h2 ds vs e3⟩
  | .lst ds, _, ⟨a, vs, e1, e2, e3, e4⟩ => ⟨a, vs, e1, e2, e3, RepL.kc h1 h2 ds vs e4⟩
  | .obj n, _, h => h
  | .gl _, _, ⟨a, e1, e2⟩ => ⟨a, by rw [h2]; exact e1, e2⟩
  | .ty _, _, h => h
  | .scr _, _, ⟨a, e1, e2⟩ => ⟨a, e1, by rw [h1]; exact e2⟩
  | .edc, _, h => h
  | .ins _ _ ds, _, ⟨a, C, d, vs, e1, e2, e3, e4, e5, e6⟩ => ⟨a, C, d, vs, e1, e2, by rw [h2]; exact e3, e4, RepL.kc h1 h2 ds vs e5, e6⟩
theorem RepL.kc {k k' : Kx} (h1 : k'.K = k.K) (h2 : k'.mg = k.mg) : ∀ (ds : List D) (vs : List V), RepL k H g ds vs → RepL k' H g ds vs
  | [], _, h => h
  | d :: ds, _, ⟨v, r, e1, e2, e3⟩ => ⟨v, r, e1, Rep.kc h1 h2 d v e2, RepL.kc h1 h2 ds r e3⟩
end
theorem RepL.nil : RepL k H g [] [] := rfl
theorem RepL.cons {d : D} {ds : List D} {v : V} {vs : List V} (h : Rep k H g d v) (t : RepL k H g ds vs) : RepL k H g (d :: ds) (v :: vs) := ⟨v, vs, rfl, h, t⟩
theorem RepL.length : ∀ {ds : List D} {vs : List V}, RepL k H g ds vs → vs.length = ds.length
  | [], _, h => by cases (show _ = [] from h); rfl
  | _ :: ds, _, ⟨v, r, h1, _, h3⟩ => by rw [h1, List.length_cons, List.length_cons, RepL.length h3]
theorem RepL.get : ∀ {ds : List D} {vs : List V} {i : Nat} {d : D}, RepL k H g ds vs → ds[i]? = some d → ∃ v, vs[i]? = some v ∧ Rep k H g d v
  | [], _, _, _, _, e => by simp at e
  | _ :: _, _, 0, _, ⟨v, r, h1, h2, _⟩, e => by
    simp at e; subst e; subst h1; exact ⟨v, rfl, h2⟩
  | _ :: ds, _, i + 1, d, ⟨v, r, h1, _, h3⟩, e => by
    subst h1
    obtain ⟨u, a, b⟩ := RepL.get (i := i) (d := d) h3 (by simpa using e)
    exact ⟨u, by simpa using a, b⟩
theorem RepL.append : ∀ {ds es : List D} {vs us : List V}, RepL k H g ds vs → RepL k H g es us → RepL k H g (ds ++ es) (vs ++ us)
  | [], _, _, _, h, t => by cases (show _ = [] from h); exact t
  | _ :: _, _, _, _, ⟨v, r, h1, h2, h3⟩, t => by subst h1; exact ⟨v, _, rfl, h2, RepL.append h3 t⟩
theorem RepL.take : ∀ {ds : List D} {vs : List V} (n : Nat), RepL k H g ds vs → RepL k H g (ds.take n) (vs.take n)
  | [], _, _, h => by cases (show _ = [] from h); simp; rfl
  | _ :: _, _, 0, ⟨v, r, h1, h2, h3⟩ => by subst h1; rfl
  | _ :: _, _, n + 1, ⟨v, r, h1, h2, h3⟩ => by subst h1; exact ⟨v, _, rfl, h2, RepL.take n h3⟩
theorem RepL.drop : ∀ {ds : List D} {vs : List V} (n : Nat), RepL k H g ds vs → RepL k H g (ds.drop n) (vs.drop n)
  | [], _, _, h => by cases (show _ = [] from h); simp; rfl
  | _ :: _, _, 0, h => h
  | _ :: _, _, n + 1, ⟨v, r, h1, h2, h3⟩ => by subst h1; exact RepL.drop n h3
theorem RepL.set : ∀ {ds : List D} {vs : List V} {d : D} {v : V} (i : Nat), RepL k H g ds vs → Rep k H g d v → RepL k H g (ds.set i d) (vs.set i v)
  | [], _, _, _, _, h, _ => by cases (show _ = [] from h); rfl
  | _ :: _, _, _, _, 0, ⟨v, r, h1, h2, h3⟩, q => by subst h1; exact ⟨_, _, rfl, q, h3⟩
  | _ :: _, _, _, _, i + 1, ⟨v, r, h1, h2, h3⟩, q => by subst h1; exact ⟨v, _, rfl, h2, RepL.set i h3 q⟩
theorem RepL.reverse {ds : List D} {vs : List V} (h : RepL k H g ds vs) : RepL k H g ds.reverse vs.reverse := by
  induction ds generalizing vs with
  | nil => cases (show _ = [] from h); rfl
  | cons d ds ih =>
    obtain ⟨v, r, rfl, h2, h3⟩ := h
    rw [List.reverse_cons, List.reverse_cons]
    exact (ih h3).append (.cons h2 .nil)
end
/-- the store stands in the heap -/
structure WF (k : Kx) (H : Hp) (g : G) (S : Sto) : Prop where
  len : S.length = g.n
  ob : ∀ (i : Nat) (o : O), S[i]? = some o → ORep k H g o (g.ρ i)
  inj : ∀ i j, i < g.n → j < g.n → g.ρ i = g.ρ j → i = j
  nF : ∀ i, i < g.n → ¬ g.F (g.ρ i)
  tF : ∀ a, g.F a → ∃ o, H a = some o
/-- an exception's class and its own dict -/
def XRep (k : Kx) (H : Hp) (g : G) (x : Exn) (c : Value) (d : Option Addr) : Prop :=
  ∃ C, k.mg x.cls = some (.ref C) ∧ c = .ref C ∧ ∀ f e, x.fs.lookup f = some e → ∃ a fs v, d = some a ∧ g.F a ∧ H a = some (.xd fs) ∧ fs.lookup f = some v ∧ Rep k H g e v
section
variable {k : Kx} {H H' : Hp} {g g' : G}
theorem XRep.mono (e : PExt H g H' g') {x : Exn} {c : Value} {d : Option Addr} (h : XRep k H g x c d) : XRep k H' g' x c d := by
  obtain ⟨C, h1, h2, h3⟩ := h
  refine ⟨C, h1, h2, fun f y q => ?_⟩
  obtain ⟨a, fs, v, e1, e2, e3, e4, e5⟩ := h3 f y q
  exact ⟨a, fs, v, e1, e.F _ e2, e.kF _ _ e2 e3, e4, e5.mono e _ _⟩
theorem XRep.kc {k k' : Kx} (h1 : k'.K = k.K) (h2 : k'.mg = k.mg) {x : Exn} {c : Value} {d : Option Addr} (h : XRep k H g x c d) : XRep k' H g x c d := by
  obtain ⟨C, a1, a2, a3⟩ := h
  refine ⟨C, by rw [h2]; exact a1, a2, fun f y q => ?_⟩
  obtain ⟨a, fs, v, e1, e2, e3, e4, e5⟩ := a3 f y q
  exact ⟨a, fs, v, e1, e2, e3, e4, Rep.kc h1 h2 _ _ e5⟩
theorem ORep.kc {k k' : Kx} (h1 : k'.K = k.K) (h2 : k'.mg = k.mg) (h3 : k'.w = k.w) {o : O} {a : Addr} (h : ORep k H g o a) : ORep k' H g o a := by
  cases o with
  | lst ds => obtain ⟨vs, e1, e2⟩ := h; exact ⟨vs, e1, RepL.kc h1 h2 _ _ e2⟩
  | dK kvs => obtain ⟨vs, e1, e2⟩ := h; exact ⟨vs, e1, RepL.kc h1 h2 _ _ e2⟩
  | dT kvs => obtain ⟨vs, e1, e2⟩ := h; exact ⟨vs, e1, RepL.kc h1 h2 _ _ e2⟩
  | ins c ns ds => obtain ⟨C, dx, vs, e0, e1, e2⟩ := h; exact ⟨C, dx, vs, by rw [h2]; exact e0, e1, RepL.kc h1 h2 _ _ e2⟩
  | dN kvs => obtain ⟨es, e1, e2, e3, e4, e5⟩ := h; exact ⟨es, by rw [h3]; exact e1, e2, e3, by rw [h1]; exact e4, RepL.kc h1 h2 _ _ e5⟩
theorem WF.kc {k k' : Kx} (h1 : k'.K = k.K) (h2 : k'.mg = k.mg) (h3 : k'.w = k.w) {S : Sto} (w : WF k H g S) : WF k' H g S := ⟨w.len, fun i o e => (w.ob i o e).kc h1 h2 h3, w.inj, w.nF, w.tF⟩
end
/-- the slots that hold the caught exception -/
def ExcRel (k : Kx) (σ : L2.St) (L : Ls) (H : Hp) (g : G) : Prop := ∀ (i : Nat) (x : Exn), L[i]? = some (.exc x) → ∃ a oe, k.cur = some (a, oe) ∧ σ[i]? = some (some (.ref a)) ∧ XRep k H g x oe.cls oe.dict
section
variable {k : Kx} {H H' : Hp} {g g' : G} {σ : L2.St} {L : Ls} {i : Nat} {lv : LV}
theorem ExcRel.mono (h : ExcRel k σ L H g) (e : PExt H g H' g') : ExcRel k σ L H' g' := fun i x q => by
  obtain ⟨a, oe, h1, h2, h3⟩ := h i x q
  exact ⟨a, oe, h1, h2, h3.mono e⟩
theorem exc_at {j : Nat} {x : Exn} (hlv : ∀ x, lv ≠ .exc x) (q : (L.set i lv)[j]? = some (.exc x)) : i ≠ j ∧ L[j]? = some (.exc x) := by
  by_cases hj : i = j
  · subst hj
    by_cases hl : i < L.length
    · rw [List.getElem?_set_self hl] at q
      exact absurd (Option.some.inj q) (hlv x)
    · rw [List.getElem?_eq_none (by rw [List.length_set]; omega)] at q; cases q
  · rw [List.getElem?_set_ne hj] at q
    exact ⟨hj, q⟩
theorem ExcRel.set {ov : Option V} (h : ExcRel k σ L H g) (hlv : ∀ x, lv ≠ .exc x) : ExcRel k (σ.set i ov) (L.set i lv) H g := fun j x q => by
  obtain ⟨hj, q⟩ := exc_at hlv q
  rw [List.getElem?_set_ne hj]
  exact h j x q
theorem ExcRel.setL (h : ExcRel k σ L H g) (hlv : ∀ x, lv ≠ .exc x) : ExcRel k σ (L.set i lv) H g := fun j x q => h j x (exc_at hlv q).2
end
/-- an object of the frame's own -/
def OwnAt (k : Kx) (H : Hp) (g : G) (a : Addr) (o : O) : Prop := ORep k H g o a ∧ ¬ g.F a ∧ ∀ i, i < g.n → g.ρ i ≠ a
structure LocRel (k : Kx) (σ : L2.St) (L : Ls) (H : Hp) (g : G) : Prop where
  len : σ.length = L.length
  val : ∀ (i : Nat) (d : D), L[i]? = some (.v d) → ∃ v, σ[i]? = some (some v) ∧ Rep k H g d v
  own : ∀ (i : Nat) (o : O), L[i]? = some (.o o) → ∃ a, σ[i]? = some (some (.ref a)) ∧ OwnAt k H g a o
  sep : ∀ (i j : Nat) (o u : O) (a : Addr), L[i]? = some (.o o) → L[j]? = some (.o u) → σ[i]? = some (some (.ref a)) → σ[j]? = some (some (.ref a)) → i = j
  exc : ExcRel k σ L H g
theorem ORep.tr {k : Kx} {H : Hp} {g : G} {o : O} {a : Addr} (h : ORep k H g o a) : ∃ u, H a = some u := by
  cases o with
  | lst ds => obtain ⟨vs, e, _⟩ := h; exact ⟨_, e⟩
  | dK kvs => obtain ⟨vs, e, _⟩ := h; exact ⟨_, e⟩
  | dT kvs => obtain ⟨vs, e, _⟩ := h; exact ⟨_, e⟩
  | ins c ns ds => obtain ⟨C, dx, vs, _, e, _⟩ := h; exact ⟨_, e⟩
  | dN kvs => obtain ⟨es, e, _⟩ := h; exact ⟨_, e⟩
theorem ORep.mono {k : Kx} {H H' : Hp} {g g' : G} {o : O} {a : Addr} (e : PExt H g H' g') (hk : ∀ o, H a = some o → H' a = some o) (h : ORep k H g o a) : ORep k H' g' o a := by
  cases o with
  | lst ds => obtain ⟨vs, q, r⟩ := h; exact ⟨vs, hk _ q, r.mono e _ _⟩
  | dK kvs => obtain ⟨vs, q, r⟩ := h; exact ⟨vs, hk _ q, r.mono e _ _⟩
  | dT kvs => obtain ⟨vs, q, r⟩ := h; exact ⟨vs, hk _ q, r.mono e _ _⟩
  | ins c ns ds => obtain ⟨C, dx, vs, q0, q, r⟩ := h; exact ⟨C, dx, vs, q0, hk _ q, r.mono e _ _⟩
  | dN kvs => obtain ⟨es, q, e1, e2, e3, r⟩ := h; exact ⟨es, hk _ q, e1, e2, e3.at e.kT, r.mono e _ _⟩
theorem OwnAt.ext {k : Kx} {H H' : Hp} {g g' : G} {o : O} {a : Addr} (e : Ext H g H' g') (h : OwnAt k H g a o) : OwnAt k H' g' a o := by
  obtain ⟨h1, h2, h3⟩ := h
  obtain ⟨u, hu⟩ := h1.tr
  refine ⟨h1.mono e.toPExt fun o q => e.keep a o q h3, fun f => ?_, fun i hi q => ?_⟩
  · rcases e.newF a f with f | f
    · exact h2 f
    · rw [hu] at f; cases f
  · by_cases hi' : i < g.n
    · exact h3 i hi' ((e.ρ i hi').symm.trans q)
    · have z := e.newρ i (Nat.le_of_not_lt hi') hi
      rw [q, hu] at z; cases z
theorem LocRel.ext {k : Kx} {σ : L2.St} {L : Ls} {H H' : Hp} {g g' : G} (r : LocRel k σ L H g) (e : Ext H g H' g') : LocRel k σ L H' g' where
  len := r.len
  val := fun i d h => by
    obtain ⟨v, a, b⟩ := r.val i d h
    exact ⟨v, a, b.mono e.toPExt _ _⟩
  own := fun i o h => by
    obtain ⟨a, h1, h2⟩ := r.own i o h
    exact ⟨a, h1, h2.ext e⟩
  sep := r.sep
  exc := r.exc.mono e.toPExt
def G.frz (g : G) (a : Addr) : G := { g with F := fun b => b = a ∨ g.F b }
def G.push (g : G) (a : Addr) : G := { g with ρ := fun i => if i = g.n then a else g.ρ i, n := g.n + 1 }
section
variable {k : Kx} {H : Hp} {g : G} {S : Sto} {p : Addr} {o : HO}
theorem Ext.new (h : H p = none) : Ext H g (upd H p o) g where
  toPExt := ⟨fun _ h => h, fun a u _ q => by rw [upd_ne (ne_of_none q h)]; exact q, fun a xs q => by rw [upd_ne (ne_of_none q h)]; exact q, fun a u x q => by rw [upd_ne (ne_of_none q h)]; exact q, Nat.le_refl _, fun _ _ => rfl⟩
  keep := fun a u q _ => by rw [upd_ne (ne_of_none q h)]; exact q
  newF := fun _ h => .inl h
  newρ := fun i h1 h2 => absurd h2 (Nat.not_lt.mpr h1)
  tr := fun a u q => ⟨u, by rw [upd_ne (ne_of_none q h)]; exact q⟩
theorem PExt.frz : PExt H g H (g.frz p) := ⟨fun _ h => .inr h, fun _ _ _ h => h, fun _ _ h => h, fun _ _ _ h => h, Nat.le_refl _, fun _ _ => rfl⟩
theorem Ext.newFrz (h : H p = none) : Ext H g (upd H p o) (g.frz p) where
  toPExt := (Ext.new h).toPExt.trans PExt.frz
  keep := (Ext.new h).keep
  newF := fun a f => by
    rcases f with rfl | f
    · exact .inr h
    · exact .inl f
  newρ := fun i h1 h2 => absurd h2 (Nat.not_lt.mpr h1)
  tr := (Ext.new (o := o) (g := g) h).tr
theorem WF.ρt (w : WF k H g S) {i : Nat} (hi : i < g.n) : ∃ o, H (g.ρ i) = some o := by
  obtain ⟨o, e⟩ : ∃ o, S[i]? = some o := ⟨_, List.getElem?_eq_getElem (by rw [w.len]; exact hi)⟩
  exact (w.ob i o e).tr
theorem WF.new (w : WF k H g S) (h : H p = none) : WF k (upd H p o) g S where
  len := w.len
  ob := fun i u e => (w.ob i u e).mono (Ext.new h).toPExt fun o q => by rw [upd_ne (ne_of_none q h)]; exact q
  inj := w.inj
  nF := w.nF
  tF := fun a f => by
    obtain ⟨u, e⟩ := w.tF a f
    exact ⟨u, by rw [upd_ne (ne_of_none e h)]; exact e⟩
theorem WF.newFrz (w : WF k H g S) (h : H p = none) : WF k (upd H p o) (g.frz p) S where
  len := w.len
  ob := fun i u e => ((w.new (o := o) h).ob i u e).mono PExt.frz fun _ q => q
  inj := w.inj
  nF := fun i hi f => by
    rcases f with f | f
    · obtain ⟨u, e⟩ := w.ρt hi
      rw [show g.ρ i = p from f, h] at e; cases e
    · exact w.nF i hi f
  tF := fun a f => by
    rcases f with rfl | f
    · exact ⟨o, upd_same⟩
    · exact (w.new h).tF a f
end
end Rf
set_option Elab.async false
set_option linter.all false
set_option maxRecDepth 100000
namespace Rf
open PySem L2
abbrev kx (X : Cx) : Kx := ⟨X.K, X.mg, if X.calm = true then none else X.pn.head?, X.w⟩
theorem kx_calm {X : Cx} (h : X.calm = true) : kx X = k0 X.K X.mg X.w := by unfold kx; rw [if_pos h]
def Post {α β : Type} (k : Kx) (P : Hp → G → α → β → Prop) (H : Hp) (g : G) (W : Value → Option Addr → Hp → Prop) (r : R α) (Q : β → Hp → Prop) : Prop := match r with
  | .ok a S => ∀ b H' g', Ext H g H' g' → WF k H' g' S → P H' g' a b → Q b H'
  | .ex x S => ∀ c d H' g', Ext H g H' g' → WF k H' g' S → XRep k H' g' x c d → W c d H'
  | .no => False
section
variable {α β α' β' : Type} {k : Kx} {P : Hp → G → α → β → Prop} {P' : Hp → G → α' → β' → Prop} {H H' : Hp} {g g' : G} {W : Value → Option Addr → Hp → Prop} {r : R α} {f : α → Sto → R α'} {Q : β → Hp → Prop} {Q' : β' → Hp → Prop}
theorem Post.from (h : Post k P H g W r Q) (e : Ext H g H' g') : Post k P H' g' W r Q := by
  cases r with
  | ok a S => exact fun b H2 g2 e2 w p => h b H2 g2 (e.trans e2) w p
  | ex x S => exact fun c d H2 g2 e2 w p => h c d H2 g2 (e.trans e2) w p
  | no => exact h
theorem Post.bind (h : Post k P' H g W (r.bind f) Q') (hk : ∀ a S b H' g', Ext H g H' g' → WF k H' g' S → P H' g' a b → Post k P' H' g' W (f a S) Q' → Q b H') : Post k P H g W r Q := by
  cases r with
  | ok a S => exact fun b H2 g2 e w p => hk a S b H2 g2 e w p (Post.from h e)
  | ex x S => exact h
  | no => exact h
theorem Post.kc {d : R D} {Q : V → Hp → Prop} {k k' : Kx} (h1 : k'.K = k.K) (h2 : k'.mg = k.mg) (h3 : k'.w = k.w) (h : Post k (Rep k) H g W d Q) : Post k' (Rep k') H g W d Q := by
  cases d with
  | ok a S => exact fun b H2 g2 e w p => h b H2 g2 e (w.kc h1.symm h2.symm h3.symm) (Rep.kc h1.symm h2.symm _ _ p)
  | ex x S => exact fun c d H2 g2 e w p => h c d H2 g2 e (w.kc h1.symm h2.symm h3.symm) (p.kc h1.symm h2.symm)
  | no => exact h
theorem Post.ret {a : α} {b : β} {S : Sto} (h : Post k P H g W (.ok a S) Q) (w : WF k H g S) (p : P H g a b) : Q b H := h b H g (Ext.refl H g) w p
end
/-- a list in the store by its items -/
@[reducible] def deref (S : Sto) : D → D
  | .obj n => match S[n]? with
    | some (.lst ds) => .lst ds
    | _ => .obj n
  | d => d
/-- what may be looked into: like Rep, but a list need not be one that is never written again -/
def CRep (k : Kx) (H : Hp) (g : G) : D → V → Prop
  | .lst ds, v => ∃ a vs, v = .ref a ∧ H a = some (.lst vs) ∧ RepL k H g ds vs
  | d, v => Rep k H g d v
/-- an operand: a value, or an own object of the frame -/
def PkRep (k : Kx) (σ : L2.St) (L : Ls) (H : Hp) (g : G) (d : D) (v : V) : Prop :=
  Rep k H g d v ∨ ∃ (i : Nat) (ds : List D), L[i]? = some (.o (.lst ds)) ∧ d = .lst ds ∧ σ[i]? = some (some v)
section
variable {k : Kx} {σ : L2.St} {L : Ls} {H H' : Hp} {g g' : G} {S : Sto} {d : D} {v : V}
theorem Rep.c (h : Rep k H g d v) : CRep k H g d v := by
  cases d with
  | lst ds => obtain ⟨a, vs, h1, _, h3, h4⟩ := h; exact ⟨a, vs, h1, h3, h4⟩
  | _ => exact h
theorem PkRep.ext (h : PkRep k σ L H g d v) (e : PExt H g H' g') : PkRep k σ L H' g' d v := by
  rcases h with h | h
  · exact .inl (h.mono e _ _)
  · exact .inr h
theorem PkRep.c (h : PkRep k σ L H g d v) (l : LocRel k σ L H g) (w : WF k H g S) : CRep k H g (deref S d) v := by
  rcases h with h | ⟨i, ds, h1, rfl, h3⟩
  · cases d with
    | obj n =>
      obtain ⟨hn, rfl⟩ := h
      show CRep k H g (match S[n]? with | some (.lst ds) => .lst ds | _ => .obj n) _
      cases q : S[n]? with
      | none => exact ⟨hn, rfl⟩
      | some o =>
        cases o with
        | lst ds =>
          obtain ⟨vs, a, b⟩ := w.ob n _ q
          exact ⟨_, vs, rfl, a, b⟩
        | _ => exact ⟨hn, rfl⟩
    | _ => exact Rep.c h
  · obtain ⟨a, q, ⟨vs, e, r⟩, _⟩ := l.own i _ h1
    rw [h3] at q
    cases q
    exact ⟨a, vs, rfl, e, r⟩
end
section
variable (k : Kx) (W : WX)
def tE (m : EM) : TE := fun σ H Q => ∃ L S g, LocRel k σ L H g ∧ WF k H g S ∧ Post k (Rep k) H g (fun c d => W c d σ) (m L S) Q
def tP (m : EM) : TE := fun σ H Q => ∃ L S g, LocRel k σ L H g ∧ WF k H g S ∧ Post k (PkRep k σ L) H g (fun c d => W c d σ) (m L S) Q
/-- a new list: its items -/
def FRep (H : Hp) (H' : Hp) (g' : G) (ds : List D) (v : V) : Prop := ∃ a, v = .ref a ∧ H a = none ∧ OwnAt k H' g' a (.lst ds)
def tF (m : Ls → Sto → R (List D)) : TE := fun σ H Q => ∃ L S g, LocRel k σ L H g ∧ WF k H g S ∧ Post k (FRep k H) H g (fun c d => W c d σ) (m L S) Q
def tT (m : Ls → Sto → R Bool) : TT := fun σ H Q => ∃ L S g, LocRel k σ L H g ∧ WF k H g S ∧ Post k (fun _ _ (b c : Bool) => c = b) H g (fun c d => W c d σ) (m L S) Q
def PkL (σ : L2.St) (L : Ls) (H : Hp) (g : G) : List D → List V → Prop
  | [], vs => vs = []
  | d :: ds, vs => ∃ v r, vs = v :: r ∧ PkRep k σ L H g d v ∧ PkL σ L H g ds r
def tA (m : Ls → Sto → R (List D)) : TA := fun σ H Q => ∃ L S g, LocRel k σ L H g ∧ WF k H g S ∧ Post k (PkL k σ L) H g (fun c d => W c d σ) (m L S) Q
end
theorem PE.imp {X : Cx} {e : Expr} {t t' : TE} (h : PE X e t) (i : ∀ σ H Q, t' σ H Q → t σ H Q) : PE X e t' := ⟨fun pins s σ H Q I q => h.run pins s σ H Q I (i σ H Q q)⟩
theorem PT.imp {X : Cx} {e : Expr} {t t' : TT} (h : PT X e t) (i : ∀ σ H Q, t' σ H Q → t σ H Q) : PT X e t' := ⟨fun pins s σ H Q I q => h.run pins s σ H Q I (i σ H Q q)⟩
theorem PA.imp {X : Cx} {e : List Expr} {t t' : TA} (h : PA X e t) (i : ∀ σ H Q, t' σ H Q → t σ H Q) : PA X e t' := ⟨fun pos pins s σ H Q I q => h.run pos pins s σ H Q I (i σ H Q q)⟩
abbrev SE (X : Cx) (W : WX) (e : Expr) (m : EM) : Prop := PE X e (tE (kx X) W m)
abbrev SP (X : Cx) (W : WX) (e : Expr) (m : EM) : Prop := PE X e (tP (kx X) W m)
abbrev SF (X : Cx) (W : WX) (e : Expr) (m : Ls → Sto → R (List D)) : Prop := PE X e (tF (kx X) W m)
abbrev ST (X : Cx) (W : WX) (e : Expr) (m : Ls → Sto → R Bool) : Prop := PT X e (tT (kx X) W m)
abbrev SA (X : Cx) (W : WX) (es : List Expr) (m : Ls → Sto → R (List D)) : Prop := PA X es (tA (kx X) W m)
section
variable {X : Cx} {W : WX} {e a b : Expr} {es : List Expr} {m ma mb : EM}
theorem SE.pk (h : SE X W e m) : SP X W e m := PE.imp h fun σ H Q ⟨L, S, g, l, w, p⟩ => ⟨L, S, g, l, w, by
  cases q : m L S with
  | ok d S' => rw [q] at p; exact fun v H' g' e w r => p v H' g' e w (.inl r)
  | ex x S' => rw [q] at p; exact p
  | no => rw [q] at p; exact p⟩
def eVar (i : Nat) : EM := fun L S => match L[i]? with
  | some (.v d) => .ok d S
  | _ => .no
def pVar (i : Nat) : EM := fun L S => match L[i]? with
  | some (.v d) => .ok d S
  | some (.o (.lst ds)) => .ok (.lst ds) S
  | _ => .no
def eC (d : D) : EM := fun _ S => .ok d S
theorem se_var {i : Nat} {x : Str} {pos : Pos} (h : PE X (.Name x pos) (tVar i)) : SE X W (.Name x pos) (eVar i) := PE.imp h fun σ H Q ⟨L, S, g, l, w, p⟩ => by
  unfold eVar at p
  cases q : L[i]? with
  | none => rw [q] at p; exact p.elim
  | some lv =>
    rw [q] at p
    cases lv with
    | v d =>
      obtain ⟨v, e1, r⟩ := l.val i d q
      exact ⟨v, e1, Post.ret p w r⟩
    | _ => exact p.elim
theorem sp_var {i : Nat} {x : Str} {pos : Pos} (h : PE X (.Name x pos) (tVar i)) : SP X W (.Name x pos) (pVar i) := PE.imp h fun σ H Q ⟨L, S, g, l, w, p⟩ => by
  unfold pVar at p
  cases q : L[i]? with
  | none => rw [q] at p; exact p.elim
  | some lv =>
    rw [q] at p
    cases lv with
    | v d =>
      obtain ⟨v, e1, r⟩ := l.val i d q
      exact ⟨v, e1, Post.ret p w (.inl r)⟩
    | o o =>
      cases o with
      | lst ds =>
        obtain ⟨v, e1, r⟩ := l.own i _ q
        exact ⟨_, e1, Post.ret p w (.inr ⟨i, ds, q, rfl, e1⟩)⟩
      | _ => exact p.elim
    | un => exact p.elim
    | exc x => exact p.elim
theorem se_const {d : D} {v : V} (h : PE X e (tC v)) (r : ∀ H g, Rep (kx X) H g d v) : SE X W e (eC d) := PE.imp h fun σ H Q ⟨L, S, g, l, w, p⟩ => Post.ret p w (r H g)
/-- an operation on contents -/
def OpC (X : Cx) (f : Value → Value → Sem Value) (o : D → D → Option D) : Prop :=
  ∀ (d e res : D), o d e = some res → OpR X f (fun x y H Q => ∃ g S, WF (kx X) H g S ∧ CRep (kx X) H g d x ∧ CRep (kx X) H g e y ∧
    ∀ v H' g', Ext H g H' g' → WF (kx X) H' g' S → Rep (kx X) H' g' res v → Q v H')
def lift {α : Type} (o : Option α) (S : Sto) : R α := match o with
  | some a => .ok a S
  | none => .no
def eBin (o : D → D → Option D) (ma mb : EM) : EM := fun L S => (ma L S).bind fun x S1 => (mb L S1).bind fun y S2 => lift (o (deref S2 x) (deref S2 y)) S2
theorem OpR.ex {f : Value → Value → Sem Value} {o : D → D → Option D} (h : OpC X f o) : OpR X f (fun x y H Q => ∃ g S d e res, WF (kx X) H g S ∧ CRep (kx X) H g d x ∧ CRep (kx X) H g e y ∧ o d e = some res ∧
    ∀ v H' g', Ext H g H' g' → WF (kx X) H' g' S → Rep (kx X) H' g' res v → Q v H') := by
  intro pins s σ H x y v u Q I rx ry q
  obtain ⟨g, S, d, e, res, w, c1, c2, q1, q2⟩ := q
  exact h d e res q1 pins s σ H x y v u Q I rx ry ⟨g, S, w, c1, c2, q2⟩
/-- the bind of two operands, for the readings of two expressions -/
theorem two_ops {k : Kx} {o : D → D → Option D} {σ : L2.St} {H : Hp} {Q : VK} {Wf : WX} (h : tE k Wf (eBin o ma mb) σ H Q) :
    tP k Wf ma σ H fun x H1 => tP k Wf mb σ H1 fun y H2 => ∃ g S d e res, WF k H2 g S ∧ CRep k H2 g d x ∧ CRep k H2 g e y ∧ o d e = some res ∧
      ∀ v H' g', Ext H2 g H' g' → WF k H' g' S → Rep k H' g' res v → Q v H' := by
  obtain ⟨L, S, g, l, w, p⟩ := h
  refine ⟨L, S, g, l, w, Post.bind p fun x S1 xv H1 g1 e1 w1 r1 p1 => ?_⟩
  refine ⟨L, S1, g1, l.ext e1, w1, Post.bind p1 fun y S2 yv H2 g2 e2 w2 r2 p2 => ?_⟩
  have l2 := (l.ext e1).ext e2
  cases q : o (deref S2 x) (deref S2 y) with
  | none => rw [q] at p2; exact p2.elim
  | some res =>
    rw [q] at p2
    exact ⟨g2, S2, _, _, res, w2, (r1.ext e2.toPExt).c l2 w2, r2.c l2 w2, q, p2⟩
theorem se_bin {op : Operator} {o : D → D → Option D} {pos : Pos} (h : OpC X (binaryOp op) o) (ha : SP X W a ma) (hb : SP X W b mb) : SE X W (.BinOp a op b pos) (eBin o ma mb) :=
  PE.imp (pe_op (OpR.ex h) ha hb) fun σ H Q q => two_ops q
theorem se_cmp {op : CmpOp} {o : D → D → Option D} {pos : Pos} (h : OpC X (compareOp op) o) (ha : SP X W a ma) (hb : SP X W b mb) (hm : behindInMarks op b = false) : SE X W (.Compare a [op] [b] pos) (eBin o ma mb) :=
  PE.imp (pe_cmpR (OpR.ex h) ha hb hm) fun σ H Q q => two_ops q
/-- a test's answer must be a truth -/
def tOfE (m : EM) : Ls → Sto → R Bool := fun L S => (m L S).bind fun d S1 => match d with
  | .bl b => .ok b S1
  | _ => .no
theorem tt_of {k : Kx} {σ : L2.St} {H : Hp} {Q : Bool → Hp → Prop} {Wf : WX} (h : tT k Wf (tOfE m) σ H Q) : tE k Wf m σ H fun x H' => ∃ c, x = .bl c ∧ Q c H' := by
  obtain ⟨L, S, g, l, w, p⟩ := h
  refine ⟨L, S, g, l, w, Post.bind p fun d S1 v H1 g1 e1 w1 r1 p1 => ?_⟩
  cases d with
  | bl b => exact ⟨b, r1, Post.ret p1 w1 rfl⟩
  | _ => exact p1.elim
theorem st_cmp {op : CmpOp} {o : D → D → Option D} {pos : Pos} (h : OpC X (compareOp op) o) (ha : SP X W a ma) (hb : SP X W b mb) (hm : behindInMarks op b = false) : ST X W (.Compare a [op] [b] pos) (tOfE (eBin o ma mb)) :=
  PT.imp (pt_cmpR (OpR.ex h) ha hb hm) fun σ H Q q => two_ops (tt_of q)
end
end Rf
set_option Elab.async false
set_option linter.all false
set_option maxRecDepth 100000
namespace Rf
open PySem L2
mutual
def toPy : D → Option PyData
  | .non => some .none
  | .bl b => some (.bool b)
  | .int i => some (.int i)
  | .str x => some (.str ⟨x.toArray⟩)
  | .tup ds => (toPyL ds).map .tuple
  | .lst ds => (toPyL ds).map .list
  | _ => none
def toPyL : List D → Option (List PyData)
  | [] => some []
  | d :: ds => match toPy d, toPyL ds with
    | some p, some ps => some (p :: ps)
    | _, _ => none
end
def shp (d : D) : Bool := match toPy d with
  | some p => SeqAt.shaped p
  | none => false
theorem shp_get {d : D} (h : shp d = true) : ∃ p, toPy d = some p ∧ SeqAt.shaped p = true := by
  unfold shp at h
  split at h
  · rename_i p e; exact ⟨p, e, h⟩
  · cases h
mutual
def eqv : D → D → Bool
  | .non, .non => true
  | .bl a, .bl b => a == b
  | .bl a, .int j => (if a then 1 else 0) == j
  | .int i, .bl b => i == (if b then 1 else 0)
  | .int i, .int j => i == j
  | .str x, .str y => x == y
  | .lst xs, .lst ys => eqvL xs ys
  | .tup xs, .tup ys => eqvL xs ys
  | _, _ => false
def eqvL : List D → List D → Bool
  | [], [] => true
  | x :: xs, y :: ys => eqv x y && eqvL xs ys
  | _, _ => false
end
theorem str_beq (x y : List Nat) : ((⟨x.toArray⟩ : Str) == ⟨y.toArray⟩) = (x == y) := by
  rw [Bool.eq_iff_iff, beq_iff_eq, beq_iff_eq]
  constructor
  · intro h
    have := congrArg (fun z : Str => z.cps.toList) h
    simpa using this
  · rintro rfl; rfl
mutual
theorem eqv_py : ∀ (d e : D) (p q : PyData), toPy d = some p → toPy e = some q → PyData.eqv p q = eqv d e
  | .non, e, p, q, h1, h2 => by
    cases h1
    cases e with
    | tup es => simp only [toPy, Option.map_eq_some_iff] at h2; obtain ⟨x, _, rfl⟩ := h2; rfl
    | lst es => simp only [toPy, Option.map_eq_some_iff] at h2; obtain ⟨x, _, rfl⟩ := h2; rfl
    | obj _ => cases h2
    | gl _ => cases h2
    | ty _ => cases h2
    | scr _ => cases h2
    | edc => cases h2
    | ins _ _ _ => cases h2
    | _ => cases h2; rfl
  | .bl b, e, p, q, h1, h2 => by
    cases h1
    cases e with
    | tup es => simp only [toPy, Option.map_eq_some_iff] at h2; obtain ⟨x, _, rfl⟩ := h2; rfl
    | lst es => simp only [toPy, Option.map_eq_some_iff] at h2; obtain ⟨x, _, rfl⟩ := h2; rfl
    | obj _ => cases h2
    | gl _ => cases h2
    | ty _ => cases h2
    | scr _ => cases h2
    | edc => cases h2
    | ins _ _ _ => cases h2
    | _ => cases h2; first | rfl | (simp only [PyData.eqv, eqv])
  | .int b, e, p, q, h1, h2 => by
    cases h1
    cases e with
    | tup es => simp only [toPy, Option.map_eq_some_iff] at h2; obtain ⟨x, _, rfl⟩ := h2; rfl
    | lst es => simp only [toPy, Option.map_eq_some_iff] at h2; obtain ⟨x, _, rfl⟩ := h2; rfl
    | obj _ => cases h2
    | gl _ => cases h2
    | ty _ => cases h2
    | scr _ => cases h2
    | edc => cases h2
    | ins _ _ _ => cases h2
    | _ => cases h2; first | rfl | (simp only [PyData.eqv, eqv])
  | .str b, e, p, q, h1, h2 => by
    cases h1
    cases e with
    | tup es => simp only [toPy, Option.map_eq_some_iff] at h2; obtain ⟨x, _, rfl⟩ := h2; rfl
    | lst es => simp only [toPy, Option.map_eq_some_iff] at h2; obtain ⟨x, _, rfl⟩ := h2; rfl
    | obj _ => cases h2
    | gl _ => cases h2
    | ty _ => cases h2
    | scr _ => cases h2
    | edc => cases h2
    | ins _ _ _ => cases h2
    | str c => cases h2; simp only [PyData.eqv, eqv]; exact str_beq b c
    | _ => cases h2; first | rfl | (simp only [PyData.eqv, eqv])
  | .tup ds, e, p, q, h1, h2 => by
    simp only [toPy, Option.map_eq_some_iff] at h1
    obtain ⟨ps, h1, rfl⟩ := h1
    cases e with
    | tup es =>
      simp only [toPy, Option.map_eq_some_iff] at h2
      obtain ⟨qs, h2, rfl⟩ := h2
      simp only [PyData.eqv, eqv]
      exact eqv_pyL ds es ps qs h1 h2
    | lst es => simp only [toPy, Option.map_eq_some_iff] at h2; obtain ⟨x, _, rfl⟩ := h2; rfl
    | obj _ => cases h2
    | gl _ => cases h2
    | ty _ => cases h2
    | scr _ => cases h2
    | edc => cases h2
    | ins _ _ _ => cases h2
    | _ => cases h2; rfl
  | .lst ds, e, p, q, h1, h2 => by
    simp only [toPy, Option.map_eq_some_iff] at h1
    obtain ⟨ps, h1, rfl⟩ := h1
    cases e with
    | lst es =>
      simp only [toPy, Option.map_eq_some_iff] at h2
      obtain ⟨qs, h2, rfl⟩ := h2
      simp only [PyData.eqv, eqv]
      exact eqv_pyL ds es ps qs h1 h2
    | tup es => simp only [toPy, Option.map_eq_some_iff] at h2; obtain ⟨x, _, rfl⟩ := h2; rfl
    | obj _ => cases h2
    | gl _ => cases h2
    | ty _ => cases h2
    | scr _ => cases h2
    | edc => cases h2
    | ins _ _ _ => cases h2
    | _ => cases h2; rfl
theorem eqv_pyL : ∀ (ds es : List D) (ps qs : List PyData), toPyL ds = some ps → toPyL es = some qs → PyData.eqvAll ps qs = eqvL ds es
  | [], [], ps, qs, h1, h2 => by cases h1; cases h2; rfl
  | [], e :: es, ps, qs, h1, h2 => by
    cases h1
    simp only [toPyL] at h2
    split at h2
    · cases h2; rfl
    · cases h2
  | d :: ds, [], ps, qs, h1, h2 => by
    cases h2
    simp only [toPyL] at h1
    split at h1
    · cases h1; rfl
    · cases h1
  | d :: ds, e :: es, ps, qs, h1, h2 => by
    simp only [toPyL] at h1 h2
    split at h1
    · rename_i p ps' a1 a2
      cases h1
      split at h2
      · rename_i q qs' b1 b2
        cases h2
        simp only [PyData.eqvAll, eqvL]
        rw [eqv_py d e p q a1 b1, eqv_pyL ds es ps' qs' a2 b2]
      · cases h2
    · cases h1
end
section
variable {k : Kx} {H : Hp} {g : G}
mutual
theorem Rep.dp : ∀ (d : D) (v : V) (p : PyData), Rep k H g d v → toPy d = some p → Dp k.K H v p
  | .non, v, p, h, e => by cases (show v = .non from h); cases e; exact .non
  | .bl b, v, p, h, e => by cases (show v = .bl b from h); cases e; exact .bl b
  | .int i, v, p, h, e => by cases (show v = .int i from h); cases e; exact .int i
  | .str x, v, p, h, e => by cases (show v = .str ⟨x.toArray⟩ from h); cases e; exact .str _
  | .tup ds, v, p, ⟨a, vs, h1, h2, h3⟩, e => by
    simp only [toPy, Option.map_eq_some_iff] at e
    obtain ⟨ps, e, rfl⟩ := e
    subst h1
    exact .tup h2.sq (RepL.dp ds vs ps h3 e)
  | .lst ds, v, p, ⟨a, vs, h1, _, h2, h3⟩, e => by
    simp only [toPy, Option.map_eq_some_iff] at e
    obtain ⟨ps, e, rfl⟩ := e
    subst h1
    exact .lst (SqL.of h2) (RepL.dp ds vs ps h3 e)
  | .obj _, _, _, _, e => by cases e
  | .gl _, _, _, _, e => by cases e
  | .ty _, _, _, _, e => by cases e
  | .scr _, _, _, _, e => by cases e
theorem RepL.dp : ∀ (ds : List D) (vs : List V) (ps : List PyData), RepL k H g ds vs → toPyL ds = some ps → DpAll k.K H vs ps
  | [], vs, ps, h, e => by cases (show vs = [] from h); cases e; exact .nil
  | d :: ds, vs, ps, ⟨v, r, h1, h2, h3⟩, e => by
    simp only [toPyL] at e
    split at e
    · rename_i p ps' a1 a2
      cases e
      subst h1
      exact .cons (Rep.dp d v p h2 a1) (RepL.dp ds r ps' h3 a2)
    · cases e
end
theorem CRep.dp {d : D} {v : V} {p : PyData} (h : CRep k H g d v) (e : toPy d = some p) : Dp k.K H v p := by
  cases d with
  | lst ds =>
    obtain ⟨a, vs, h1, h2, h3⟩ := h
    simp only [toPy, Option.map_eq_some_iff] at e
    obtain ⟨ps, e, rfl⟩ := e
    subst h1
    exact .lst (SqL.of h2) (RepL.dp ds vs ps h3 e)
  | _ => exact Rep.dp _ v p h e
end
/-- two flat values -/
def flatEq : D → D → Option Bool
  | .non, .non => some true
  | .non, .int _ => some false | .int _, .non => some false | .non, .bl _ => some false | .bl _, .non => some false
  | .non, .str _ => some false | .str _, .non => some false
  | .int a, .int b => some (a == b)
  | .bl a, .bl b => some (a == b)
  | .str a, .str b => some (a == b)
  | .int _, .str _ => some false | .str _, .int _ => some false | .bl _, .str _ => some false | .str _, .bl _ => some false
  | _, _ => none
def eqB (d e : D) : Option Bool := match flatEq d e with
  | some b => some b
  | none => if shp d && shp e then some (eqv d e) else none
/-- a tuple and the empty one -/
def nilEq : D → D → Option Bool
  | .tup ds, .tup [] => some ds.isEmpty
  | _, _ => none
def cEq (d e : D) : Option D := ((eqB d e).or (nilEq d e)).map .bl
def cNe (d e : D) : Option D := (eqB d e).map fun b => .bl (!b)
section
variable {X : Cx} {g : G} {S : Sto} {H : Hp} {d e res : D} {Q : VK}
/-- an answer without a new object -/
theorem scalar_fin {v : V} (q : ∀ v H' g', Ext H g H' g' → WF (kx X) H' g' S → Rep (kx X) H' g' res v → Q v H') (w : WF (kx X) H g S) (r : Rep (kx X) H g res v) : Q v H := q v H g (Ext.refl H g) w r
theorem tup_fin {ds : List D} {vs : List V} {p : Addr} (q : ∀ v H' g', Ext H g H' g' → WF (kx X) H' g' S → Rep (kx X) H' g' (.tup ds) v → Q v H') (w : WF (kx X) H g S) (r : RepL (kx X) H g ds vs) (hp : H p = none) : Q (.ref p) (upd H p (.tup vs)) :=
  q _ _ g (Ext.new hp) (w.new hp) ⟨p, vs, rfl, .inl upd_same, r.mono (Ext.new hp).toPExt _ _⟩
theorem lst_fin {ds : List D} {vs : List V} {p : Addr} (q : ∀ v H' g', Ext H g H' g' → WF (kx X) H' g' S → Rep (kx X) H' g' (.lst ds) v → Q v H') (w : WF (kx X) H g S) (r : RepL (kx X) H g ds vs) (hp : H p = none) : Q (.ref p) (upd H p (.lst vs)) :=
  q _ _ (g.frz p) (Ext.newFrz hp) (w.newFrz hp) ⟨p, vs, rfl, .inl rfl, upd_same, r.mono (Ext.newFrz hp).toPExt _ _⟩
end
theorem flatEq_v {k : Kx} {H : Hp} {g : G} {d e : D} {x y : V} {b : Bool} (h : flatEq d e = some b) (c1 : CRep k H g d x) (c2 : CRep k H g e y) : scal x y = true ∧ decide (x = y) = b := by
  unfold flatEq at h
  split at h <;> first
    | (cases h; done)
    | (cases h
       simp only [CRep, Rep] at c1 c2
       subst c1 c2
       refine ⟨rfl, ?_⟩
       first
        | decide
        | (rw [Bool.eq_iff_iff]; simp)
        | simp)
theorem cEq_ok {X : Cx} (hu : X.A.units + 64 < cLine) : OpC X (compareOp .Eq) cEq := by
  rintro d e res h pins s σ H x y v u Q I rx ry ⟨g, S, w, c1, c2, q⟩
  unfold cEq at h
  cases z : eqB d e with
  | some b =>
    rw [z] at h
    unfold eqB at z
    split at z
    · rename_i b hb
      cases z
      cases h
      obtain ⟨h1, h2⟩ := flatEq_v hb c1 c2
      exact op_eq pins s σ H x y v u Q I rx ry ⟨h1, scalar_fin q w (by rw [h2] <;> rfl)⟩
    · split at z
      · rename_i hs
        cases z
        cases h
        obtain ⟨h1, h2⟩ := Bool.and_eq_true_iff.mp hs
        obtain ⟨p, e1, s1⟩ := shp_get h1
        obtain ⟨p2, e2, s2⟩ := shp_get h2
        exact op_eqD hu pins s σ H x y v u Q I rx ry ⟨p, p2, c1.dp e1, c2.dp e2, s1, s2, scalar_fin q w (by rw [eqv_py d e p p2 e1 e2] <;> rfl)⟩
      · cases z
  | none =>
    rw [z] at h
    unfold nilEq at h
    split at h
    · rename_i ds
      cases h
      obtain ⟨a, vs, rfl, ha, ra⟩ := c1
      obtain ⟨b, us, rfl, hb, rb⟩ := c2
      cases (show us = [] from rb)
      cases (show v = Value.ref a from rx)
      cases (show u = Value.ref b from ry)
      obtain ⟨its, rv, hl, _⟩ := I.tuple ha.sq
      obtain ⟨its2, rv2, hl2, _⟩ := I.tuple hb.sq
      cases rv2
      have R := SeqAt.RcAt.tuples (A := X.A) (e := fun _ => true) hl hl2 (by omega) (fun j h1 h2 => absurd h2 (by simp))
      refine R X.prog X.w _ _ ?_
      have e : ((List.range (min its.toArray.size (#[] : Array Value).size)).all (fun _ => true) && its.toArray.size == (#[] : Array Value).size) = ds.isEmpty := by
        have hle : its.length = ds.length := by rw [← rv.length, ra.length]
        cases ds with
        | nil => 
          have : its = [] := List.length_eq_zero_iff.mp hle
          subst this; rfl
        | cons d ds =>
          cases its with
          | nil => cases hle
          | cons x its => simp
      rw [e]
      exact ⟨.bl _, H, I, rfl, scalar_fin q w rfl⟩
    · cases h
theorem cNe_ok {X : Cx} (hu : X.A.units + 64 < cLine) : OpC X (compareOp .NotEq) cNe := by
  rintro d e res h pins s σ H x y v u Q I rx ry ⟨g, S, w, c1, c2, q⟩
  unfold cNe eqB at h
  split at h
  · rename_i b hb
    cases h
    obtain ⟨h1, h2⟩ := flatEq_v hb c1 c2
    exact op_ne pins s σ H x y v u Q I rx ry ⟨h1, scalar_fin q w (by rw [h2] <;> rfl)⟩
  · split at h
    · rename_i hs
      cases h
      obtain ⟨h1, h2⟩ := Bool.and_eq_true_iff.mp hs
      obtain ⟨p, e1, s1⟩ := shp_get h1
      obtain ⟨p2, e2, s2⟩ := shp_get h2
      exact op_neD hu pins s σ H x y v u Q I rx ry ⟨p, p2, c1.dp e1, c2.dp e2, s1, s2, scalar_fin q w (by rw [eqv_py d e p p2 e1 e2] <;> rfl)⟩
    · cases h
def cLt : D → D → Option D
  | .int a, .int b => some (.bl (decide (a < b)))
  | .str a, .str b => some (.bl (decide (a < b)))
  | _, _ => none
def cLe : D → D → Option D
  | .int a, .int b => some (.bl (decide (a ≤ b)))
  | .str a, .str b => some (.bl (!decide (b < a)))
  | _, _ => none
def cGt : D → D → Option D
  | .int a, .int b => some (.bl (decide (b < a)))
  | .str a, .str b => some (.bl (decide (b < a)))
  | _, _ => none
def cGe : D → D → Option D
  | .int a, .int b => some (.bl (decide (b ≤ a)))
  | .str a, .str b => some (.bl (!decide (a < b)))
  | _, _ => none
section
variable {X : Cx}
theorem cGe_ok : OpC X (compareOp .GtE) cGe := by
  rintro d e res h pins s σ H x y v u Q I rx ry ⟨g, S, w, c1, c2, q⟩
  unfold cGe at h
  split at h
  · cases h; cases c1; cases c2
    exact op_ge pins s σ H _ _ v u Q I rx ry ⟨_, _, rfl, rfl, scalar_fin q w rfl⟩
  · cases h; cases c1; cases c2
    exact op_ge_str pins s σ H _ _ v u Q I rx ry ⟨_, _, rfl, rfl, scalar_fin q w rfl⟩
  · cases h
end
def flatD : D → Bool
  | .non => true
  | .bl _ => true
  | .int _ => true
  | .str _ => true
  | _ => false
theorem flat_v {k : Kx} {H : Hp} {g : G} {d : D} {v : V} (f : flatD d = true) (c : Rep k H g d v) : flatV v = true := by
  cases d with
  | non => cases c; rfl
  | bl b => cases c; rfl
  | int i => cases c; rfl
  | str x => cases c; rfl
  | _ => cases f
theorem flat_all {k : Kx} {H : Hp} {g : G} : ∀ {ds : List D} {vs : List V}, ds.all flatD = true → RepL k H g ds vs → vs.all flatV = true
  | [], _, _, h => by cases (show _ = [] from h); rfl
  | d :: ds, _, f, ⟨v, r, h1, h2, h3⟩ => by
    rw [List.all_cons, Bool.and_eq_true] at f
    subst h1
    rw [List.all_cons, flat_v f.1 h2, flat_all f.2 h3] <;> rfl
theorem eqV_eqv {k : Kx} {H : Hp} {g : G} {d e : D} {x y : V} (f : flatD d = true) (f' : flatD e = true) (c : Rep k H g d x) (c' : Rep k H g e y) : eqV x y = eqv d e := by
  cases d with
  | non =>
    cases c
    cases e with
    | non => cases c'; rfl
    | bl b => cases c'; rfl
    | int i => cases c'; rfl
    | str z => cases c'; rfl
    | _ => cases f'
  | bl b =>
    cases c
    cases e with
    | non => cases c'; rfl
    | bl b => cases c'; simp only [eqV, eqv]
    | int i => cases c'; simp only [eqV, eqv]
    | str z => cases c'; rfl
    | _ => cases f'
  | int i =>
    cases c
    cases e with
    | non => cases c'; rfl
    | bl b => cases c'; simp only [eqV, eqv]
    | int i => cases c'; simp only [eqV, eqv]
    | str z => cases c'; rfl
    | _ => cases f'
  | str z =>
    cases c
    cases e with
    | non => cases c'; rfl
    | bl b => cases c'; rfl
    | int i => cases c'; rfl
    | str z' => cases c'; simp only [eqV, eqv]; exact str_beq z z'
    | _ => cases f'
  | _ => cases f
theorem inV_eqv {k : Kx} {H : Hp} {g : G} {e : D} {y : V} (f' : flatD e = true) (c' : Rep k H g e y) : ∀ {ds : List D} {vs : List V}, ds.all flatD = true → RepL k H g ds vs → inV y vs = ds.any fun d => eqv d e
  | [], _, _, h => by cases (show _ = [] from h); rfl
  | d :: ds, _, f, ⟨v, r, h1, h2, h3⟩ => by
    rw [List.all_cons, Bool.and_eq_true] at f
    subst h1
    have ih := inV_eqv f' c' f.2 h3
    unfold inV at ih ⊢
    rw [List.any_cons, List.any_cons, eqV_eqv f.1 f' h2 c', ih]
def inB : D → D → Option Bool
  | x, .lst ys => if flatD x && ys.all flatD then some (ys.any fun y => eqv y x) else none
  | x, .tup ys => if flatD x && ys.all flatD then some (ys.any fun y => eqv y x) else none
  | .str [c], .str z => some (decide (c ∈ z))
  | _, _ => none
def cIn (d e : D) : Option D := (inB d e).map .bl
section
variable {X : Cx}
theorem cIn_ok : OpC X (compareOp .In) cIn := by
  rintro d e res h pins s σ H x y v u Q I rx ry ⟨g, S, w, c1, c2, q⟩
  unfold cIn inB at h
  split at h
  · split at h
    · rename_i ys hf
      cases h
      obtain ⟨f1, f2⟩ := Bool.and_eq_true_iff.mp hf
      obtain ⟨a, vs, rfl, ha, r⟩ := c2
      have c1' : Rep (kx X) H g d x := by cases d <;> first | exact c1 | cases f1
      exact op_in_seq pins s σ H _ _ v u Q I rx ry ⟨a, vs, rfl, .inl (SqL.of ha), flat_v f1 c1', flat_all f2 r, scalar_fin q w (by rw [if_neg Bool.false_ne_true, inV_eqv f1 c1' f2 r] <;> rfl)⟩
    · cases h
  · split at h
    · rename_i ys hf
      cases h
      obtain ⟨f1, f2⟩ := Bool.and_eq_true_iff.mp hf
      obtain ⟨a, vs, rfl, ha, r⟩ := c2
      have c1' : Rep (kx X) H g d x := by cases d <;> first | exact c1 | cases f1
      exact op_in_seq pins s σ H _ _ v u Q I rx ry ⟨a, vs, rfl, .inr ha.sq, flat_v f1 c1', flat_all f2 r, scalar_fin q w (by rw [if_neg Bool.false_ne_true, inV_eqv f1 c1' f2 r] <;> rfl)⟩
    · cases h
  · cases h; cases c1; cases c2
    exact op_in_sign pins s σ H _ _ v u Q I rx ry ⟨_, _, rfl, rfl, scalar_fin q w rfl⟩
  · cases h
def isNon : D → Bool
  | .non => true
  | _ => false
theorem isNon_v {k : Kx} {H : Hp} {g : G} {d : D} {v : V} (c : CRep k H g d v) : decide (v = V.non) = isNon d := by
  cases d with
  | non => cases c; rfl
  | bl b => cases c; rfl
  | int b => cases c; rfl
  | str b => cases c; rfl
  | tup ds => obtain ⟨a, vs, rfl, _⟩ := c; rfl
  | lst ds => obtain ⟨a, vs, rfl, _⟩ := c; rfl
  | obj n => obtain ⟨_, rfl⟩ := c; rfl
  | gl x => obtain ⟨a, _, rfl⟩ := c; rfl
  | ty n => cases c; rfl
  | scr n => obtain ⟨a, rfl, _⟩ := c; rfl
  | edc => obtain ⟨a, rfl, _⟩ := c; rfl
  | ins _ _ _ => obtain ⟨a, _, _, _, rfl, _⟩ := c; rfl
def cIs : D → D → Option D
  | d, .non => some (.bl (isNon d))
  | .bl a, .bl b => some (.bl (a == b))
  | _, _ => none
theorem dec_beq (a b : Bool) : decide (a = b) = (a == b) := by cases a <;> cases b <;> rfl
theorem cIs_ok : OpC X (compareOp .Is) cIs := by
  rintro d e res h pins s σ H x y v u Q I rx ry ⟨g, S, w, c1, c2, q⟩
  unfold cIs at h
  split at h
  · cases h; cases c2
    exact op_isN pins s σ H _ _ v u Q I rx ry ⟨rfl, scalar_fin q w (by rw [isNon_v c1] <;> rfl)⟩
  · cases h; cases c1; cases c2
    exact op_isBl pins s σ H _ _ v u Q I rx ry ⟨_, _, rfl, rfl, scalar_fin q w (by rw [dec_beq] <;> rfl)⟩
  · cases h
end
def oAdd : D → D → Option D
  | .int a, .int b => some (.int (a + b))
  | .str a, .str b => if a.length + b.length ≤ sizeLine then some (.str (a ++ b)) else none
  | .tup a, .tup b => if a.length + b.length ≤ sizeLine then some (.tup (a ++ b)) else none
  | .lst a, .lst b => if a.length + b.length ≤ sizeLine then some (.lst (a ++ b)) else none
  | _, _ => none
def oSub : D → D → Option D
  | .int a, .int b => some (.int (a - b))
  | _, _ => none
def oMul : D → D → Option D
  | .int a, .int b => if a.natAbs.log2 + b.natAbs.log2 < 1000000 then some (.int (a * b)) else none
  | .lst a, .int b => if -(2 ^ 63) ≤ b ∧ b < 2 ^ 63 ∧ a.length * b.toNat ≤ sizeLine then some (.lst (List.replicate b.toNat a).flatten) else none
  | .tup a, .int b => if a ≠ [] ∧ 2 ≤ b ∧ b ≤ 1000 ∧ a.length ≤ 1000 then some (.tup (List.replicate b.toNat a).flatten) else none
  | _, _ => none
def oFdiv : D → D → Option D
  | .int a, .int b => if 0 < b ∧ b.natAbs.log2 < 9000 then some (.int (a / b)) else none
  | _, _ => none
def oMod : D → D → Option D
  | .int a, .int b => if 0 < b then some (.int (a % b)) else none
  | _, _ => none
def oPow : D → D → Option D
  | .int a, .int b => if 0 ≤ b ∧ b ≤ 1000000 ∧ a.natAbs < 2 ^ 64 then some (.int (a ^ b.toNat)) else none
  | _, _ => none
theorem RepL.rep {k : Kx} {H : Hp} {g : G} {ds : List D} {vs : List V} (h : RepL k H g ds vs) : ∀ n : Nat, RepL k H g (List.replicate n ds).flatten (List.replicate n vs).flatten
  | 0 => rfl
  | n + 1 => by
    rw [List.replicate_succ, List.replicate_succ, List.flatten_cons, List.flatten_cons]
    exact h.append (RepL.rep h n)
theorem mk_app (a b : List Nat) : ((⟨a.toArray⟩ : Str) ++ ⟨b.toArray⟩) = ⟨(a ++ b).toArray⟩ := by
  show Str.append _ _ = _
  unfold Str.append
  simp
theorem mk_len (a : List Nat) : (⟨a.toArray⟩ : Str).length = a.length := by unfold Str.length; simp
section
variable {X : Cx}
theorem oAdd_ok : OpC X (binaryOp .Add) oAdd := by
  rintro d e res h pins s σ H x y v u Q I rx ry ⟨g, S, w, c1, c2, q⟩
  unfold oAdd at h
  split at h
  · cases h; cases c1; cases c2
    exact op_add pins s σ H _ _ v u Q I rx ry ⟨_, _, rfl, rfl, scalar_fin q w rfl⟩
  · split at h
    · rename_i a b hz
      cases h; cases c1; cases c2
      exact op_add_str pins s σ H _ _ v u Q I rx ry ⟨_, _, rfl, rfl, by rw [mk_len, mk_len]; exact hz, scalar_fin q w (by rw [mk_app] <;> rfl)⟩
    · cases h
  · split at h
    · rename_i a b hz
      cases h
      obtain ⟨p, vs, rfl, hp, r1⟩ := c1
      obtain ⟨p2, us, rfl, hp2, r2⟩ := c2
      refine op_catA pins s σ H _ _ v u Q I rx ry ⟨p, p2, vs, us, rfl, rfl, hp.sq, hp2.sq, by rw [r1.length, r2.length]; exact hz, fun e => ?_, fun e e2 => ?_, fun e e2 p' hp' => tup_fin q w (r1.append r2) hp'⟩
      · subst e
        have e : a = [] := List.eq_nil_of_length_eq_zero r1.length.symm
        subst e
        exact scalar_fin q w ⟨p2, us, rfl, hp2, r2⟩
      · subst e2
        have e : b = [] := List.eq_nil_of_length_eq_zero r2.length.symm
        subst e
        exact scalar_fin q w ⟨p, vs, rfl, hp, by rw [List.append_nil]; exact r1⟩
    · cases h
  · split at h
    · rename_i a b hz
      cases h
      obtain ⟨p, vs, rfl, hp, r1⟩ := c1
      obtain ⟨p2, us, rfl, hp2, r2⟩ := c2
      exact op_cat pins s σ H _ _ v u Q I rx ry ⟨p, p2, vs, us, rfl, rfl, hp, hp2, by rw [r1.length, r2.length]; exact hz, fun p' hp' => lst_fin q w (r1.append r2) hp'⟩
    · cases h
  · cases h
theorem oSub_ok : OpC X (binaryOp .Sub) oSub := by
  rintro d e res h pins s σ H x y v u Q I rx ry ⟨g, S, w, c1, c2, q⟩
  unfold oSub at h
  split at h
  · cases h; cases c1; cases c2
    exact op_sub pins s σ H _ _ v u Q I rx ry ⟨_, _, rfl, rfl, scalar_fin q w rfl⟩
  · cases h
theorem oMul_ok : OpC X (binaryOp .Mult) oMul := by
  rintro d e res h pins s σ H x y v u Q I rx ry ⟨g, S, w, c1, c2, q⟩
  unfold oMul at h
  split at h
  · split at h
    · rename_i a b hz
      cases h; cases c1; cases c2
      exact op_mulW pins s σ H _ _ v u Q I rx ry ⟨_, _, rfl, rfl, hz, scalar_fin q w rfl⟩
    · cases h
  · split at h
    · rename_i a b hz
      cases h; cases c2
      obtain ⟨p, vs, rfl, hp, r1⟩ := c1
      exact op_rep pins s σ H _ _ v u Q I rx ry ⟨p, b, vs, rfl, rfl, hp, hz.1, hz.2.1, by rw [r1.length]; exact hz.2.2, fun p' hp' => lst_fin q w (r1.rep _) hp'⟩
    · cases h
  · split at h
    · rename_i a b hz
      cases h; cases c2
      obtain ⟨p, vs, rfl, hp, r1⟩ := c1
      exact op_repT pins s σ H _ _ v u Q I rx ry ⟨p, b, vs, rfl, rfl, hp.sq, fun e => hz.1 (by subst e; exact List.eq_nil_of_length_eq_zero r1.length.symm), hz.2.1, hz.2.2.1, by rw [r1.length]; exact hz.2.2.2, fun p' hp' => tup_fin q w (r1.rep _) hp'⟩
    · cases h
  · cases h
theorem oFdiv_ok : OpC X (binaryOp .FloorDiv) oFdiv := by
  rintro d e res h pins s σ H x y v u Q I rx ry ⟨g, S, w, c1, c2, q⟩
  unfold oFdiv at h
  split at h
  · split at h
    · rename_i a b hz
      cases h; cases c1; cases c2
      exact op_fdivW pins s σ H _ _ v u Q I rx ry ⟨_, _, rfl, rfl, hz, scalar_fin q w rfl⟩
    · cases h
  · cases h
theorem oMod_ok : OpC X (binaryOp .Mod) oMod := by
  rintro d e res h pins s σ H x y v u Q I rx ry ⟨g, S, w, c1, c2, q⟩
  unfold oMod at h
  split at h
  · split at h
    · rename_i a b hz
      cases h; cases c1; cases c2
      exact op_mod pins s σ H _ _ v u Q I rx ry ⟨_, _, rfl, rfl, hz, scalar_fin q w rfl⟩
    · cases h
  · cases h
theorem oPow_ok : OpC X (binaryOp .Pow) oPow := by
  rintro d e res h pins s σ H x y v u Q I rx ry ⟨g, S, w, c1, c2, q⟩
  unfold oPow at h
  split at h
  · split at h
    · rename_i a b hz
      cases h; cases c1; cases c2
      exact op_pow pins s σ H _ _ v u Q I rx ry ⟨_, _, rfl, rfl, hz, scalar_fin q w rfl⟩
    · cases h
  · cases h
end
end Rf
set_option Elab.async false
set_option linter.all false
set_option maxRecDepth 100000
namespace Rf
open PySem L2
def noStar : Expr → Bool
  | .Starred .. => false
  | _ => true
theorem star_cons {e : Expr} {es : List Expr} {env : Env} (h : noStar e = true) : starEach (e :: es) env = (false, eval e env) :: starEach es env := by
  cases e <;> first | rfl | cases h
theorem star_any {pos : Pos} {env : Env} : ∀ {es : List Expr}, es.all noStar = true → (backTo pos (starEach es env)).any (·.1) = false
  | [], _ => rfl
  | e :: es, h => by
    rw [List.all_cons, Bool.and_eq_true] at h
    rw [star_cons h.1]
    show (false || (backTo pos (starEach es env)).any (·.1)) = false
    rw [star_any h.2] <;> rfl
def plainTest : Expr → Bool
  | .UnaryOp .Not _ _ => false
  | .BoolOp .. => false
  | .IfExp .. => false
  | .Compare .. => false
  | _ => true
theorem plain_true {e : Expr} {env : Env} (h : plainTest e = true) (whole : Sem Value) : isTrue e env whole = (do let v ← whole; standAt e.pos; holding [v] (truthy v)) := by
  cases e with
  | UnaryOp op a pos => cases op <;> first | rfl | cases h
  | BoolOp => cases h
  | IfExp => cases h
  | Compare => cases h
  | _ => rfl
def notSlice : Expr → Bool
  | .Slice .. => false
  | _ => true
theorem not_slice {b : Expr} (h : notSlice b = true) (o i : Value) : subscripted b false o i = operate [o, i] (getItem o i) := by
  cases b <;> first | rfl | cases h
def notSuper : Expr → Bool
  | .Call (.Name id _) [] [] _ => !(id == ("super" : Str))
  | _ => true
theorem not_super {o : Expr} {f : Str} {env : Env} (h : notSuper o = true) : attributeBase o f env (eval o env) = eval o env := by
  unfold attributeBase
  split
  · rename_i id p1 p2
    have h' : (!(id == ("super" : Str))) = true := h
    have h2 : (id != ("super" : Str)) = true := h'
    simp only [h2, Bool.true_or, if_true]
  · rfl
def notMark : Expr → Bool
  | .Set .. => false
  | _ => true
def notComp : Expr → Bool
  | .ListComp .. => false
  | .SetComp .. => false
  | .DictComp .. => false
  | _ => true
section
variable {X : Cx} {W : WX} {e a b c : Expr} {es : List Expr} {m ma mb mc : EM}
def aNil : Ls → Sto → R (List D) := fun _ S => .ok [] S
def aCons (m : EM) (r : Ls → Sto → R (List D)) : Ls → Sto → R (List D) := fun L S => (m L S).bind fun d S1 => (r L S1).bind fun ds S2 => .ok (d :: ds) S2
theorem PkL.ext {k : Kx} {σ : L2.St} {L : Ls} {H H' : Hp} {g g' : G} (e : PExt H g H' g') : ∀ {ds : List D} {vs : List V}, PkL k σ L H g ds vs → PkL k σ L H' g' ds vs
  | [], _, h => h
  | _ :: _, _, ⟨v, r, h1, h2, h3⟩ => ⟨v, r, h1, h2.ext e, PkL.ext e h3⟩
theorem sa_nil : SA X W [] aNil := PA.imp pa_nil fun σ H Q ⟨L, S, g, l, w, p⟩ => Post.ret p w rfl
theorem sa_cons {mr : Ls → Sto → R (List D)} (ha : SP X W e m) (hr : SA X W es mr) (hs : noStar e = true) : SA X W (e :: es) (aCons m mr) :=
  PA.imp (pa_cons ha hr (star_cons hs)) fun σ H Q ⟨L, S, g, l, w, p⟩ => ⟨L, S, g, l, w, Post.bind p fun d S1 v H1 g1 e1 w1 r1 p1 =>
    ⟨L, S1, g1, l.ext e1, w1, Post.bind p1 fun ds S2 vs H2 g2 e2 w2 r2 p2 => Post.ret p2 w2 ⟨v, vs, rfl, r1.ext e2.toPExt, r2⟩⟩⟩
/-- arguments that are kept (values alone) -/
def tAE (k : Kx) (W : WX) (m : Ls → Sto → R (List D)) : TA := fun σ H Q => ∃ L S g, LocRel k σ L H g ∧ WF k H g S ∧ Post k (RepL k) H g (fun c d => W c d σ) (m L S) Q
abbrev SAE (X : Cx) (W : WX) (es : List Expr) (m : Ls → Sto → R (List D)) : Prop := PA X es (tAE (kx X) W m)
theorem sae_nil : SAE X W [] aNil := PA.imp pa_nil fun σ H Q ⟨L, S, g, l, w, p⟩ => Post.ret p w rfl
theorem sae_cons {mr : Ls → Sto → R (List D)} (ha : SE X W e m) (hr : SAE X W es mr) (hs : noStar e = true) : SAE X W (e :: es) (aCons m mr) :=
  PA.imp (pa_cons ha hr (star_cons hs)) fun σ H Q ⟨L, S, g, l, w, p⟩ => ⟨L, S, g, l, w, Post.bind p fun d S1 v H1 g1 e1 w1 r1 p1 =>
    ⟨L, S1, g1, l.ext e1, w1, Post.bind p1 fun ds S2 vs H2 g2 e2 w2 r2 p2 => Post.ret p2 w2 ⟨v, vs, rfl, r1.mono e2.toPExt _ _, r2⟩⟩⟩
def eTup (m : Ls → Sto → R (List D)) : EM := fun L S => (m L S).bind fun ds S1 => if ds.length ≤ sizeLine then .ok (.tup ds) S1 else .no
theorem se_tup {x1 : Nat} {pos : Pos} {mr : Ls → Sto → R (List D)} (h : SAE X W es mr) : SE X W (.Tuple es x1 pos) (eTup mr) :=
  PE.imp (pe_tup h) fun σ H Q ⟨L, S, g, l, w, p⟩ => ⟨L, S, g, l, w, Post.bind p fun ds S1 vs H1 g1 e1 w1 r1 p1 => by
    by_cases hz : ds.length ≤ sizeLine
    · rw [if_pos hz] at p1
      exact ⟨by rw [r1.length]; exact hz, fun q hq => p1 _ _ g1 (Ext.new hq) (w1.new hq) ⟨q, vs, rfl, .inl upd_same, r1.mono (Ext.new hq).toPExt _ _⟩⟩
    · rw [if_neg hz] at p1
      exact p1.elim⟩
def fLst (m : Ls → Sto → R (List D)) : Ls → Sto → R (List D) := fun L S => (m L S).bind fun ds S1 => if ds.length ≤ sizeLine then .ok ds S1 else .no
theorem fresh_of {H H1 : Hp} {g g1 : G} {q : Addr} (e : Ext H g H1 g1) (h : H1 q = none) : H q = none := by
  cases z : H q with
  | none => rfl
  | some o => obtain ⟨u, y⟩ := e.tr q o z; rw [h] at y; cases y
theorem own_new {k : Kx} {H : Hp} {g : G} {S : Sto} {ds : List D} {vs : List V} {q : Addr} (w : WF k H g S) (r : RepL k H g ds vs) (hq : H q = none) : OwnAt k (upd H q (.lst vs)) g q (.lst ds) := by
  refine ⟨⟨vs, upd_same, r.mono (Ext.new hq).toPExt _ _⟩, fun f => ?_, fun i hi z => ?_⟩
  · obtain ⟨o, z⟩ := w.tF q f
    rw [hq] at z; cases z
  · obtain ⟨o, y⟩ := w.ρt hi
    rw [z, hq] at y; cases y
/-- a rule that ends in a new list -/
theorem f_fin {k : Kx} {H H1 : Hp} {g g1 : G} {S1 : Sto} {W : Value → Option Addr → Hp → Prop} {ds : List D} {vs : List V} {q : Addr} {Q : VK} (e : Ext H g H1 g1) (w1 : WF k H1 g1 S1) (r : RepL k H1 g1 ds vs)
    (p : Post k (FRep k H) H1 g1 W (.ok ds S1) Q) (hq : H1 q = none) : Q (.ref q) (upd H1 q (.lst vs)) :=
  p _ _ g1 (Ext.new hq) (w1.new hq) ⟨q, rfl, fresh_of e hq, own_new w1 r hq⟩
theorem sf_lst {pos : Pos} {mr : Ls → Sto → R (List D)} (h : SAE X W es mr) : SF X W (.List es pos) (fLst mr) :=
  PE.imp (pe_lst h) fun σ H Q ⟨L, S, g, l, w, p⟩ => ⟨L, S, g, l, w, Post.bind p fun ds S1 vs H1 g1 e1 w1 r1 p1 => by
    by_cases hz : ds.length ≤ sizeLine
    · rw [if_pos hz] at p1
      exact ⟨by rw [r1.length]; exact hz, fun q hq => f_fin e1 w1 r1 p1 hq⟩
    · rw [if_neg hz] at p1
      exact p1.elim⟩
/-- a new list that is never changed; one in the store -/
def eFz (m : Ls → Sto → R (List D)) : EM := fun L S => (m L S).bind fun ds S1 => .ok (.lst ds) S1
def eNw (m : Ls → Sto → R (List D)) : EM := fun L S => (m L S).bind fun ds S1 => .ok (.obj S1.length) (S1 ++ [.lst ds])
theorem Ext.frzNew {H : Hp} {H1 : Hp} {g g1 : G} {q : Addr} (e : Ext H g H1 g1) (hq : H q = none) : Ext H g H1 (g1.frz q) where
  toPExt := e.toPExt.trans PExt.frz
  keep := e.keep
  newF := fun a f => by
    rcases f with rfl | f
    · exact .inr hq
    · exact e.newF a f
  newρ := e.newρ
  tr := e.tr
theorem WF.frzOwn {k : Kx} {H : Hp} {g : G} {S : Sto} {q : Addr} {o : O} (w : WF k H g S) (h : OwnAt k H g q o) : WF k H (g.frz q) S where
  len := w.len
  ob := fun i u e => (w.ob i u e).mono PExt.frz fun _ z => z
  inj := w.inj
  nF := fun i hi f => by
    rcases f with f | f
    · exact h.2.2 i hi f
    · exact w.nF i hi f
  tF := fun a f => by
    rcases f with rfl | f
    · exact h.1.tr
    · exact w.tF a f
theorem OwnAt.frz {k : Kx} {H : Hp} {g : G} {q : Addr} {ds : List D} (h : OwnAt k H g q (.lst ds)) : Rep k H (g.frz q) (.lst ds) (.ref q) := by
  obtain ⟨⟨vs, e, r⟩, _⟩ := h
  exact ⟨q, vs, rfl, .inl rfl, e, r.mono PExt.frz _ _⟩
theorem se_fz {mr : Ls → Sto → R (List D)} (h : SF X W e mr) : SE X W e (eFz mr) := PE.imp h fun σ H Q ⟨L, S, g, l, w, p⟩ => ⟨L, S, g, l, w, by
  unfold eFz at p
  cases q : mr L S with
  | ok ds S1 =>
    rw [q] at p
    exact fun v H1 g1 e1 w1 ⟨a, h1, h2, h3⟩ => p v H1 (g1.frz a) (e1.frzNew h2) (w1.frzOwn h3) (by rw [h1]; exact h3.frz)
  | ex x S1 => rw [q] at p; exact p
  | no => rw [q] at p; exact p⟩
theorem Ext.pushNew {H : Hp} {H1 : Hp} {g g1 : G} {q : Addr} (e : Ext H g H1 g1) (hq : H q = none) : Ext H g H1 (g1.push q) where
  toPExt := e.toPExt.trans ⟨fun _ h => h, fun _ _ _ h => h, fun _ _ h => h, fun _ _ _ h => h, Nat.le_succ _, fun i hi => if_neg (Nat.ne_of_lt hi)⟩
  keep := e.keep
  newF := e.newF
  newρ := fun i h1 h2 => by
    show H (if i = g1.n then q else g1.ρ i) = none
    by_cases z : i = g1.n
    · rw [if_pos z]; exact hq
    · rw [if_neg z]
      have h3 : i < g1.n + 1 := h2
      exact e.newρ i h1 (by omega)
  tr := e.tr
theorem WF.pushOwn {k : Kx} {H : Hp} {g : G} {S : Sto} {q : Addr} {o : O} (w : WF k H g S) (h : OwnAt k H g q o) : WF k H (g.push q) (S ++ [o]) where
  len := by rw [List.length_append, w.len]; rfl
  ob := fun i u e => by
    have pe : PExt H g H (g.push q) := ⟨fun _ h => h, fun _ _ _ h => h, fun _ _ h => h, fun _ _ _ h => h, Nat.le_succ _, fun i hi => if_neg (Nat.ne_of_lt hi)⟩
    by_cases hi : i < g.n
    · rw [List.getElem?_append_left (by rw [w.len]; exact hi)] at e
      show ORep k _ _ u (if i = g.n then q else g.ρ i)
      rw [if_neg (Nat.ne_of_lt hi)]
      exact (w.ob i u e).mono pe fun o z => z
    · rw [List.getElem?_append_right (by rw [w.len]; exact Nat.le_of_not_lt hi), w.len] at e
      have e0 : i - g.n = 0 := by
        rcases Nat.eq_zero_or_pos (i - g.n) with z | z
        · exact z
        · rw [List.getElem?_eq_none (by simp only [List.length_singleton]; omega)] at e; cases e
      have ei : i = g.n := by omega
      rw [e0] at e
      cases e
      show ORep k _ _ o (if i = g.n then q else g.ρ i)
      rw [if_pos ei]
      exact h.1.mono pe fun o z => z
  inj := fun i j hi hj e => by
    have e' : (if i = g.n then q else g.ρ i) = (if j = g.n then q else g.ρ j) := e
    have h3 : i < g.n + 1 := hi
    have h4 : j < g.n + 1 := hj
    by_cases h1 : i = g.n
    · by_cases h2 : j = g.n
      · omega
      · rw [if_pos h1, if_neg h2] at e'
        exact absurd e'.symm (h.2.2 j (by omega))
    · by_cases h2 : j = g.n
      · rw [if_neg h1, if_pos h2] at e'
        exact absurd e' (h.2.2 i (by omega))
      · rw [if_neg h1, if_neg h2] at e'
        exact w.inj i j (by omega) (by omega) e'
  nF := fun i hi f => by
    have f' : g.F (if i = g.n then q else g.ρ i) := f
    have h3 : i < g.n + 1 := hi
    by_cases h1 : i = g.n
    · rw [if_pos h1] at f'
      exact h.2.1 f'
    · rw [if_neg h1] at f'
      exact w.nF i (by omega) f'
  tF := fun a f => w.tF a f
theorem se_nw {mr : Ls → Sto → R (List D)} (h : SF X W e mr) : SE X W e (eNw mr) := PE.imp h fun σ H Q ⟨L, S, g, l, w, p⟩ => ⟨L, S, g, l, w, by
  unfold eNw at p
  cases q : mr L S with
  | ok ds S1 =>
    rw [q] at p
    refine fun v H1 g1 e1 w1 ⟨a, h1, h2, h3⟩ => p v H1 (g1.push a) (e1.pushNew h2) (w1.pushOwn h3) ?_
    rw [h1]
    refine ⟨by rw [w1.len]; exact Nat.lt_succ_self _, ?_⟩
    show V.ref a = V.ref (if S1.length = g1.n then a else _)
    rw [if_pos w1.len]
  | ex x S1 => rw [q] at p; exact p
  | no => rw [q] at p; exact p⟩
def tNt (m : Ls → Sto → R Bool) : Ls → Sto → R Bool := fun L S => (m L S).bind fun b S1 => .ok (!b) S1
def tAn (ma mb : Ls → Sto → R Bool) : Ls → Sto → R Bool := fun L S => (ma L S).bind fun b S1 => if b = true then mb L S1 else .ok false S1
def tOo (ma mb : Ls → Sto → R Bool) : Ls → Sto → R Bool := fun L S => (ma L S).bind fun b S1 => if b = true then .ok true S1 else mb L S1
variable {ta tb tc : Ls → Sto → R Bool} {pos : Pos} {rest : List Expr}
theorem st_not (h : ST X W a ta) : ST X W (.UnaryOp .Not a pos) (tNt ta) :=
  PT.imp (pt_not h) fun σ H Q ⟨L, S, g, l, w, p⟩ => ⟨L, S, g, l, w, Post.bind p fun b S1 c H1 g1 e1 w1 r1 p1 => by cases r1; exact Post.ret p1 w1 rfl⟩
abbrev SW (X : Cx) (W : WX) (e : Expr) (m : Ls → Sto → R Bool) : Prop := PW X e (tT (kx X) W m)
theorem PW.imp {e : Expr} {t t' : TT} (h : PW X e t) (i : ∀ σ H Q, t' σ H Q → t σ H Q) : PW X e t' := ⟨fun wh pins s σ H Q I q => h.run wh pins s σ H Q I (i σ H Q q)⟩
theorem sw_or1 (h : ST X W a ta) : SW X W (.BoolOp .Or [a] pos) ta := pw_or1 h
theorem sw_or (ha : ST X W a ta) (hb : SW X W (.BoolOp .Or (b :: rest) pos) tb) : SW X W (.BoolOp .Or (a :: b :: rest) pos) (tOo ta tb) :=
  PW.imp (pw_or ha hb) fun σ H Q ⟨L, S, g, l, w, p⟩ => ⟨L, S, g, l, w, Post.bind p fun c S1 c' H1 g1 e1 w1 r1 p1 => by
    cases r1
    cases c with
    | true => exact Post.ret p1 w1 rfl
    | false => exact ⟨L, S1, g1, l.ext e1, w1, p1⟩⟩
/-- a value's truth -/
def truth : D → Option Bool
  | .non => some false
  | .bl b => some b
  | .int i => some (i != 0)
  | .str x => if x.length ≤ sizeLine then some (!x.isEmpty) else none
  | .tup xs => some (!xs.isEmpty)
  | .lst xs => some (!xs.isEmpty)
  | _ => none
def tTr (m : EM) : Ls → Sto → R Bool := fun L S => (m L S).bind fun d S1 => lift (truth (deref S1 d)) S1
theorem isEmpty_rep {k : Kx} {H : Hp} {g : G} {ds : List D} {vs : List V} (r : RepL k H g ds vs) : ds.isEmpty = vs.isEmpty := by
  cases ds with
  | nil => cases (show vs = [] from r); rfl
  | cons d ds => obtain ⟨v, u, rfl, _⟩ := r; rfl
theorem truth_v {k : Kx} {H : Hp} {g : G} {d : D} {v : V} {b : Bool} (h : truth d = some b) (c : CRep k H g d v) : TruV k.K v H b := by
  cases d with
  | non => cases c; cases h; rfl
  | bl b => cases c; cases h; rfl
  | int i => cases c; cases h; rfl
  | str x =>
    cases c
    simp only [truth] at h
    split at h
    · rename_i hz
      cases h
      refine ⟨by rw [mk_len]; exact hz, ?_⟩
      rw [mk_len]
      cases x with
      | nil => rfl
      | cons c x =>
        show true = _
        rw [eq_comm, bne_iff_ne]
        simp only [List.length_cons]
        omega
    · cases h
  | tup xs =>
    cases h
    obtain ⟨a, vs, rfl, h1, h2⟩ := c
    exact .inr (.inl ⟨vs, h1.sq, by rw [isEmpty_rep h2]⟩)
  | lst xs =>
    cases h
    obtain ⟨a, vs, rfl, h1, h2⟩ := c
    exact .inl ⟨vs, SqL.of h1, by rw [isEmpty_rep h2]⟩
  | _ => cases h
theorem st_truth (h : SP X W e m) (ht : plainTest e = true) : ST X W e (tTr m) :=
  PT.imp (pt_truth h (plain_true ht)) fun σ H Q ⟨L, S, g, l, w, p⟩ => ⟨L, S, g, l, w, Post.bind p fun d S1 v H1 g1 e1 w1 r1 p1 => by
    cases q : truth (deref S1 d) with
    | none => rw [q] at p1; exact p1.elim
    | some b =>
      rw [q] at p1
      exact ⟨b, truth_v q (r1.c (l.ext e1) w1), Post.ret p1 w1 rfl⟩⟩
def eAn (ma mb : EM) : EM := fun L S => (ma L S).bind fun d S1 => match d with
  | .bl true => mb L S1
  | .bl false => .ok (.bl false) S1
  | _ => .no
def eOo (ma mb : EM) : EM := fun L S => (ma L S).bind fun d S1 => match d with
  | .bl true => .ok (.bl true) S1
  | .bl false => mb L S1
  | _ => .no
def eNt (ma : EM) : EM := fun L S => (ma L S).bind fun d S1 => match d with
  | .bl b => .ok (.bl (!b)) S1
  | _ => .no
theorem se_one {op : BoolOp} (h : SE X W a ma) : SE X W (.BoolOp op [a] pos) ma := pe_one h
theorem se_and (ha : SE X W a ma) (hb : SE X W (.BoolOp .And (b :: rest) pos) mb) : SE X W (.BoolOp .And (a :: b :: rest) pos) (eAn ma mb) :=
  PE.imp (pe_and ha hb) fun σ H Q ⟨L, S, g, l, w, p⟩ => ⟨L, S, g, l, w, Post.bind p fun d S1 v H1 g1 e1 w1 r1 p1 => by
    cases d with
    | bl c =>
      cases r1
      refine ⟨c, rfl, ?_⟩
      cases c with
      | true => exact ⟨L, S1, g1, l.ext e1, w1, p1⟩
      | false => exact Post.ret p1 w1 rfl
    | _ => exact p1.elim⟩
theorem se_not (ha : SE X W a ma) : SE X W (.UnaryOp .Not a pos) (eNt ma) :=
  PE.imp (pe_not ha) fun σ H Q ⟨L, S, g, l, w, p⟩ => ⟨L, S, g, l, w, Post.bind p fun d S1 v H1 g1 e1 w1 r1 p1 => by
    cases d with
    | bl c => cases r1; exact ⟨c, rfl, Post.ret p1 w1 rfl⟩
    | _ => exact p1.elim⟩
def eIf (t : Ls → Sto → R Bool) (ma mb : EM) : EM := fun L S => (t L S).bind fun c S1 => if c = true then ma L S1 else mb L S1
def eNeg (ma : EM) : EM := fun L S => (ma L S).bind fun d S1 => match d with
  | .int i => .ok (.int (-i)) S1
  | _ => .no
def eCh (o o' : D → D → Option D) (ma mb mc : EM) : EM := fun L S => (ma L S).bind fun x S1 => (mb L S1).bind fun y S2 => match o (deref S2 x) (deref S2 y) with
  | some (.bl true) => (mc L S2).bind fun z S3 => lift (o' (deref S3 y) (deref S3 z)) S3
  | some (.bl false) => .ok (.bl false) S2
  | _ => .no
theorem RepL.atI {k : Kx} {H : Hp} {g : G} {ds : List D} {vs : List V} {i : Int} {d : D} (r : RepL k H g ds vs) (h : L2.atI ds i = some d) : ∃ v, L2.atI vs i = some v ∧ Rep k H g d v := by
  unfold L2.atI at h ⊢
  rw [r.length]
  cases q : ixN ds.length i with
  | none => rw [q] at h; cases h
  | some j =>
    rw [q] at h
    exact r.get h
def oIx : D → D → Option D
  | .lst xs, .int i => L2.atI xs i
  | .tup xs, .int i => L2.atI xs i
  | .str x, .int i => if x.length ≤ sizeLine then (L2.atI x i).map fun c => .str [c] else none
  | _, _ => none
theorem ix_ok : IxR X (fun x y H Q => ∃ g S d e res, WF (kx X) H g S ∧ CRep (kx X) H g d x ∧ CRep (kx X) H g e y ∧ oIx d e = some res ∧ ∀ v H' g', Ext H g H' g' → WF (kx X) H' g' S → Rep (kx X) H' g' res v → Q v H') := by
  rintro value slice pins s σ H x y v u Q I rx ry ⟨g, S, d, e, res, w, c1, c2, h, q⟩ hs
  unfold oIx at h
  split at h
  · cases c2
    obtain ⟨p, vs, rfl, hp, r⟩ := c1
    obtain ⟨z, hz, rz⟩ := r.atI h
    exact ix_list value slice pins s σ H _ _ v u Q I rx ry ⟨p, vs, _, z, rfl, rfl, SqL.of hp, hz, scalar_fin q w rz⟩ hs
  · cases c2
    obtain ⟨p, vs, rfl, hp, r⟩ := c1
    obtain ⟨z, hz, rz⟩ := r.atI h
    exact ix_tup value slice pins s σ H _ _ v u Q I rx ry ⟨p, vs, _, z, rfl, rfl, hp.sq, hz, scalar_fin q w rz⟩ hs
  · split at h
    · rename_i x i hz
      cases c2; cases c1
      obtain ⟨c, hc, rfl⟩ := Option.map_eq_some_iff.mp h
      exact ix_str value slice pins s σ H _ _ v u Q I rx ry ⟨_, _, c, rfl, rfl, by rw [mk_len]; exact hz, by simpa using hc, scalar_fin q w rfl⟩ hs
    · cases h
  · cases h
theorem se_ix (ha : SP X W a ma) (hb : SP X W b mb) (hn : notSlice b = true) : SE X W (.Subscript a b pos) (eBin oIx ma mb) :=
  PE.imp (pe_ix ix_ok ha hb (not_slice hn)) fun σ H Q q => two_ops q
/-- a slice's part -/
def tO (k : Kx) (W : WX) (m : Ls → Sto → R (Option Int)) : TO := fun σ H Q => ∃ L S g, LocRel k σ L H g ∧ WF k H g S ∧ Post k (fun _ _ (b c : Option Int) => c = b) H g (fun c d => W c d σ) (m L S) Q
abbrev SO (X : Cx) (W : WX) (e : Option Expr) (m : Ls → Sto → R (Option Int)) : Prop := PO X e (tO (kx X) W m)
def oNo : Ls → Sto → R (Option Int) := fun _ S => .ok none S
def oSo (m : EM) : Ls → Sto → R (Option Int) := fun L S => (m L S).bind fun d S1 => match d with
  | .int i => .ok (some i) S1
  | .non => .ok none S1
  | _ => .no
theorem so_none : SO X W none oNo := ⟨fun pins s σ H Q I ⟨L, S, g, l, w, p⟩ => po_none.run pins s σ H Q I (Post.ret p w rfl)⟩
theorem so_some (h : SE X W e m) : SO X W (some e) (oSo m) := by
  refine ⟨fun pins s σ H Q I ⟨L, S, g, l, w, p⟩ => ?_⟩
  rw [evalPart_some]
  refine thn (h.run pins s σ H (fun x H1 => ∃ o, (x = .non ∧ o = none ∨ ∃ i, x = .int i ∧ o = some i) ∧ Q o H1) I ⟨L, S, g, l, w, Post.bind p fun d S1 v H1 g1 e1 w1 r1 p1 => ?_⟩) fun u s1 ⟨x, H1, I1, r1, o, ho, q1⟩ => ?_
  · cases d with
    | non => cases r1; exact ⟨none, .inl ⟨rfl, rfl⟩, Post.ret p1 w1 rfl⟩
    | int i => cases r1; exact ⟨some i, .inr ⟨i, rfl, rfl⟩, Post.ret p1 w1 rfl⟩
    | _ => exact p1.elim
  · rcases ho with ⟨rfl, rfl⟩ | ⟨i, rfl, rfl⟩
    · cases r1
      exact ⟨none, H1, I1, .none, q1⟩
    · obtain ⟨t, rfl⟩ := r1
      exact ⟨some i, H1, I1, .int i t, q1⟩
def cutD {α : Type} (xs : List α) (lo hi : Option Int) : List α := (xs.drop (HT.sIx xs.length 0 lo)).take (HT.sIx xs.length xs.length hi - HT.sIx xs.length 0 lo)
def oSl : D → Option Int → Option Int → Option D
  | .lst xs, lo, hi => some (.lst (cutD xs lo hi))
  | .tup xs, lo, hi => some (.tup (cutD xs lo hi))
  | .str x, lo, hi => if x.length ≤ sizeLine then some (.str (cutD x lo hi)) else none
  | .scr ns, lo, hi => some (.lst (cutD (ns.map .int) lo hi))
  | _, _, _ => none
theorem RepL.cut {k : Kx} {H : Hp} {g : G} {ds : List D} {vs : List V} (r : RepL k H g ds vs) (lo hi : Option Int) : RepL k H g (cutD ds lo hi) (cutV vs lo hi) := by
  unfold cutD cutV
  rw [r.length]
  exact (r.drop _).take _
theorem RepL.ints {k : Kx} {H : Hp} {g : G} : ∀ ns : List Int, RepL k H g (ns.map .int) (ns.map V.int)
  | [] => rfl
  | n :: ns => ⟨_, _, rfl, rfl, RepL.ints ns⟩
theorem sl_ok : SlR X (fun x lo hi H Q => ∃ g S d res, WF (kx X) H g S ∧ CRep (kx X) H g d x ∧ oSl d lo hi = some res ∧ ∀ v H' g', Ext H g H' g' → WF (kx X) H' g' S → Rep (kx X) H' g' res v → Q v H') := by
  rintro pins s σ H x v vl vu lo hi sl Q I rx hs pl pu ⟨g, S, d, res, w, c, h, q⟩
  cases d with
  | lst xs =>
    cases h
    obtain ⟨p, vs, rfl, hp, r⟩ := c
    exact sl_list pins s σ H _ v vl vu lo hi sl Q I rx hs pl pu ⟨p, vs, rfl, SqL.of hp, fun p' hp' => lst_fin q w (r.cut lo hi) hp'⟩
  | scr ns =>
    cases h
    obtain ⟨p, rfl, hp⟩ := c
    exact sl_list pins s σ H _ v vl vu lo hi sl Q I rx hs pl pu ⟨p, _, rfl, hp.sq, fun p' hp' => lst_fin q w ((RepL.ints ns).cut lo hi) hp'⟩
  | tup xs =>
    cases h
    obtain ⟨p, vs, rfl, hp, r⟩ := c
    refine sl_tupA pins s σ H _ v vl vu lo hi sl Q I rx hs pl pu ⟨p, vs, rfl, hp.sq, fun hw => scalar_fin q w ⟨p, vs, rfl, hp, ?_⟩, fun _ p' hp' => tup_fin q w (r.cut lo hi) hp'⟩
    have e : cutD xs lo hi = xs := by
      unfold cutD
      rw [r.length] at hw
      rw [hw.1, hw.2, List.drop_zero, Nat.sub_zero, List.take_length]
    rw [e]; exact r
  | str z =>
    simp only [oSl] at h
    split at h
    · rename_i hz
      cases h
      cases c
      refine sl_str pins s σ H _ v vl vu lo hi sl Q I rx hs pl pu ⟨_, rfl, by rw [mk_len]; exact hz, scalar_fin q w ?_⟩
      show V.str (cutS _ lo hi) = V.str _
      unfold cutS cutD
      rw [mk_len]
    · cases h
  | _ => cases h
def eSl (ma : EM) (ml mh : Ls → Sto → R (Option Int)) : EM := fun L S => (ma L S).bind fun d S1 => (ml L S1).bind fun lo S2 => (mh L S2).bind fun hi S3 => lift (oSl (deref S3 d) lo hi) S3
theorem se_sl {lo hi : Option Expr} {ml mh : Ls → Sto → R (Option Int)} {p2 : Pos} (ha : SP X W a ma) (hl : SO X W lo ml) (hh : SO X W hi mh) : SE X W (.Subscript a (.Slice lo hi none p2) pos) (eSl ma ml mh) :=
  PE.imp (pe_slice sl_ok ha hl hh) fun σ H Q ⟨L, S, g, l, w, p⟩ => ⟨L, S, g, l, w, Post.bind p fun d S1 v H1 g1 e1 w1 r1 p1 =>
    ⟨L, S1, g1, l.ext e1, w1, Post.bind p1 fun lo' S2 lo2 H2 g2 e2 w2 r2 p2 => by
      cases r2
      exact ⟨L, S2, g2, (l.ext e1).ext e2, w2, Post.bind p2 fun hi' S3 hi2 H3 g3 e3 w3 r3 p3 => by
        cases r3
        have l3 := ((l.ext e1).ext e2).ext e3
        cases q : oSl (deref S3 d) lo' hi' with
        | none => rw [q] at p3; exact p3.elim
        | some res =>
          rw [q] at p3
          exact ⟨g3, S3, _, res, w3, ((r1.ext e2.toPExt).ext e3.toPExt).c l3 w3, q, p3⟩⟩⟩⟩
end
end Rf
set_option Elab.async false
set_option linter.all false
set_option maxRecDepth 100000
namespace Rf
open PySem L2 TL
def CRepL (k : Kx) (H : Hp) (g : G) : List D → List V → Prop
  | [], vs => vs = []
  | d :: ds, vs => ∃ v r, vs = v :: r ∧ CRep k H g d v ∧ CRepL k H g ds r
theorem PkL.c {k : Kx} {σ : L2.St} {L : Ls} {H : Hp} {g : G} {S : Sto} (l : LocRel k σ L H g) (w : WF k H g S) : ∀ {ds : List D} {vs : List V}, PkL k σ L H g ds vs → CRepL k H g (ds.map (deref S)) vs
  | [], _, h => h
  | _ :: _, _, ⟨v, r, h1, h2, h3⟩ => ⟨v, r, h1, h2.c l w, PkL.c l w h3⟩
/-- a call on contents -/
def CallC (X : Cx) (f : Value) (o : List D → Option D) : Prop :=
  ∀ (ds : List D) (res : D), o ds = some res → CallR X f (fun xs H Q => ∃ g S, WF (kx X) H g S ∧ CRepL (kx X) H g ds xs ∧
    ∀ v H' g', Ext H g H' g' → WF (kx X) H' g' S → Rep (kx X) H' g' res v → Q v H')
theorem CallR.ex {X : Cx} {f : Value} {o : List D → Option D} (h : CallC X f o) : CallR X f (fun xs H Q => ∃ g S ds res, WF (kx X) H g S ∧ CRepL (kx X) H g ds xs ∧ o ds = some res ∧
    ∀ v H' g', Ext H g H' g' → WF (kx X) H' g' S → Rep (kx X) H' g' res v → Q v H') := by
  intro pins s σ H xs us Q I r q
  obtain ⟨g, S, ds, res, w, c, q1, q2⟩ := q
  exact h ds res q1 pins s σ H xs us Q I r ⟨g, S, w, c, q2⟩
def eCall (o : List D → Option D) (ma : Ls → Sto → R (List D)) : EM := fun L S => (ma L S).bind fun ds S1 => lift (o (ds.map (deref S1))) S1
theorem call_ops {k : Kx} {o : List D → Option D} {σ : L2.St} {H : Hp} {Q : VK} {Wf : WX} {ma : Ls → Sto → R (List D)} (h : tE k Wf (eCall o ma) σ H Q) :
    tA k Wf ma σ H fun xs H1 => ∃ g S ds res, WF k H1 g S ∧ CRepL k H1 g ds xs ∧ o ds = some res ∧ ∀ v H' g', Ext H1 g H' g' → WF k H' g' S → Rep k H' g' res v → Q v H' := by
  obtain ⟨L, S, g, l, w, p⟩ := h
  refine ⟨L, S, g, l, w, Post.bind p fun ds S1 vs H1 g1 e1 w1 r1 p1 => ?_⟩
  cases q : o (ds.map (deref S1)) with
  | none => rw [q] at p1; exact p1.elim
  | some res =>
    rw [q] at p1
    exact ⟨g1, S1, _, res, w1, r1.c (l.ext e1) w1, q, p1⟩
section
variable {X : Cx} {W : WX} {e : Expr} {es : List Expr} {x : Str} {p pos : Pos} {ma : Ls → Sto → R (List D)} {o : List D → Option D}
theorem se_callB {id : String} (h : CallC X (.builtin id) o) (hg : Gl X x) (hm : X.mg x = none) (hv : bootBuiltins x = some (.builtin id)) (ha : SA X W (e :: es) ma) (hs : (e :: es).all noStar = true) (hn : x ≠ "__name__") (hd : (x == ("__debug__" : Str)) = false) :
    SE X W (.Call (.Name x p) (e :: es) [] pos) (eCall o ma) := by
  have hs' : noStar e = true ∧ es.all noStar = true := by rwa [List.all_cons, Bool.and_eq_true] at hs
  exact PE.imp (pe_callB (CallR.ex h) hg hm hv ha hn hd (star_cons hs'.1) (star_any hs'.2)) fun σ H Q q => call_ops q
theorem se_callT {T : String} (h : CallC X (.type T) o) (hg : Gl X x) (hm : X.mg x = none) (hv : bootBuiltins x = some (.type T)) (ha : SA X W (e :: es) ma) (hs : (e :: es).all noStar = true) (hn : x ≠ "__name__") (hd : (x == ("__debug__" : Str)) = false) :
    SE X W (.Call (.Name x p) (e :: es) [] pos) (eCall o ma) := by
  have hs' : noStar e = true ∧ es.all noStar = true := by rwa [List.all_cons, Bool.and_eq_true] at hs
  exact PE.imp (pe_callTy (CallR.ex h) hg hm hv ha hn hd (star_cons hs'.1) (star_any hs'.2)) fun σ H Q q => call_ops q
end
def fCall (o : List D → Option (List D)) (ma : Ls → Sto → R (List D)) : Ls → Sto → R (List D) := fun L S => (ma L S).bind fun ds S1 => lift (o (ds.map (deref S1))) S1
/-- an int's text -/
def intS : Int → List Nat
  | .ofNat n => numL n
  | .negSucc n => 45 :: numL (n + 1)
theorem toString_intS (i : Int) : (Str.ofString (toString i)) = ⟨(intS i).toArray⟩ := by
  cases i with
  | ofNat n =>
    have h := tl_num n
    exact (mk_tl _).symm.trans (by rw [show (Int.ofNat n) = ((n : Nat) : Int) from rfl, h] <;> rfl)
  | negSucc n =>
    have e : (toString (Int.negSucc n) : String) = "-" ++ toString (n + 1) := rfl
    have h2 := tl_num (n + 1)
    have h3 : (toString ((n + 1 : Nat) : Int) : String) = toString (n + 1) := rfl
    rw [h3, tl_ofString] at h2
    rw [e, PySem.Str.ofString_eq_toList]
    congr 2
    rw [String.toList_append, List.map_append]
    show [45] ++ _ = _
    rw [h2] <;> rfl
def lenD : D → Option Nat
  | .str x => if x.length ≤ sizeLine then some x.length else none
  | .tup xs => some xs.length
  | .lst xs => some xs.length
  | .scr ns => some ns.length
  | _ => none
def bLen : List D → Option D
  | [d] => (lenD d).map fun (n : Nat) => D.int (n : Int)
  | _ => none
def bAbs : List D → Option D
  | [.int i] => some (.int (if i < 0 then -i else i))
  | _ => none
def bInt : List D → Option D
  | [.int i] => some (.int i)
  | [.bl b] => some (.int (if b then 1 else 0))
  | _ => none
def bStr : List D → Option D
  | [.int i] => if i.natAbs.log2 < 1920 then some (.str (intS i)) else none
  | _ => none
def bMax2 : List D → Option D
  | [.int i, .int j] => some (.int (if j > i then j else i))
  | _ => none
def blsD : List D → Option (List Bool)
  | [] => some []
  | .bl b :: ds => (blsD ds).map (b :: ·)
  | _ :: _ => none
def bAll : List D → Option D
  | [.lst ds] => (blsD ds).map fun bs => .bl (bs.all id)
  | _ => none
theorem blsD_v {k : Kx} {H : Hp} {g : G} : ∀ {ds : List D} {vs : List V} {ns : List Bool}, blsD ds = some ns → RepL k H g ds vs → vs = ns.map V.bl
  | [], _, _, h, r => by cases h; exact r
  | .bl i :: ds, _, ns, h, ⟨v, u, h1, h2, h3⟩ => by
    simp only [blsD, Option.map_eq_some_iff] at h
    obtain ⟨ms, hm, rfl⟩ := h
    cases h2
    rw [h1, blsD_v hm h3] <;> rfl
  | .non :: _, _, _, h, _ => by cases h
  | .int _ :: _, _, _, h, _ => by cases h
  | .str _ :: _, _, _, h, _ => by cases h
  | .tup _ :: _, _, _, h, _ => by cases h
  | .lst _ :: _, _, _, h, _ => by cases h
  | .obj _ :: _, _, _, h, _ => by cases h
  | .gl _ :: _, _, _, h, _ => by cases h
  | .ty _ :: _, _, _, h, _ => by cases h
  | .scr _ :: _, _, _, h, _ => by cases h
section
variable {X : Cx}
theorem c1 {k : Kx} {H : Hp} {g : G} {d : D} {vs : List V} (h : CRepL k H g [d] vs) : ∃ v, vs = [v] ∧ CRep k H g d v := by
  obtain ⟨v, r, h1, h2, h3⟩ := h
  cases (show r = [] from h3)
  exact ⟨v, h1, h2⟩
theorem c2 {k : Kx} {H : Hp} {g : G} {d e : D} {vs : List V} (h : CRepL k H g [d, e] vs) : ∃ v u, vs = [v, u] ∧ CRep k H g d v ∧ CRep k H g e u := by
  obtain ⟨v, r, h1, h2, h3⟩ := h
  obtain ⟨u, rfl, h4⟩ := c1 h3
  exact ⟨v, u, h1, h2, h4⟩
theorem bLen_ok : CallC X (.builtin "len") bLen := by
  rintro ds res h pins s σ H xs us Q I r ⟨g, S, w, c, q⟩
  unfold bLen at h
  split at h
  · rename_i d
    obtain ⟨v, rfl, cv⟩ := c1 c
    obtain ⟨n, hn, rfl⟩ := Option.map_eq_some_iff.mp h
    refine call_len pins s σ H _ us Q I r ⟨v, n, rfl, ?_, scalar_fin q w rfl⟩
    cases d with
    | str x =>
      simp only [lenD] at hn
      split at hn
      · rename_i hz
        cases hn; cases cv
        exact ⟨by rw [mk_len]; exact hz, by rw [mk_len]⟩
      · cases hn
    | tup xs =>
      cases hn
      obtain ⟨p, vs, rfl, hp, r⟩ := cv
      exact .inr ⟨vs, hp.sq, r.length.symm⟩
    | lst xs =>
      cases hn
      obtain ⟨p, vs, rfl, hp, r⟩ := cv
      exact .inl ⟨vs, SqL.of hp, r.length.symm⟩
    | scr ns =>
      cases hn
      obtain ⟨p, rfl, hp⟩ := cv
      exact .inl ⟨_, hp.sq, (List.length_map _).symm⟩
    | _ => cases hn
  · cases h
theorem bAbs_ok : CallC X (.builtin "abs") bAbs := by
  rintro ds res h pins s σ H xs us Q I r ⟨g, S, w, c, q⟩
  unfold bAbs at h
  split at h
  · cases h
    obtain ⟨v, rfl, cv⟩ := c1 c
    cases cv
    exact call_abs pins s σ H _ us Q I r ⟨_, rfl, scalar_fin q w rfl⟩
  · cases h
theorem bInt_ok : CallC X (.type "int") bInt := by
  rintro ds res h pins s σ H xs us Q I r ⟨g, S, w, c, q⟩
  unfold bInt at h
  split at h
  · cases h
    obtain ⟨v, rfl, cv⟩ := c1 c
    cases cv
    exact call_int1 pins s σ H _ us Q I r (.inl ⟨_, rfl, scalar_fin q w rfl⟩)
  · cases h
    obtain ⟨v, rfl, cv⟩ := c1 c
    cases cv
    exact call_int1 pins s σ H _ us Q I r (.inr ⟨_, rfl, scalar_fin q w rfl⟩)
  · cases h
theorem bStr_ok : CallC X (.type "str") bStr := by
  rintro ds res h pins s σ H xs us Q I r ⟨g, S, w, c, q⟩
  unfold bStr at h
  split at h
  · split at h
    · rename_i hz
      cases h
      obtain ⟨v, rfl, cv⟩ := c1 c
      cases cv
      exact call_str_int pins s σ H _ us Q I r ⟨_, rfl, hz, scalar_fin q w (congrArg V.str (toString_intS _))⟩
    · cases h
  · cases h
theorem bMax2_ok (hc : X.calm = true) : CallC X (.builtin "max") bMax2 := by
  rintro ds res h pins s σ H xs us Q I r ⟨g, S, w, c, q⟩
  unfold bMax2 at h
  split at h
  · cases h
    obtain ⟨v, u, rfl, cv, cv'⟩ := c2 c
    cases cv; cases cv'
    exact call_max2 hc pins s σ H _ us Q I r ⟨_, _, rfl, scalar_fin q w rfl⟩
  · cases h
theorem bAll_ok (hc : X.calm = true) : CallC X (.builtin "all") bAll := by
  rintro ds res h pins s σ H xs us Q I r ⟨g, S, w, c, q⟩
  unfold bAll at h
  split at h
  · obtain ⟨ns, hn, rfl⟩ := Option.map_eq_some_iff.mp h
    obtain ⟨v, rfl, p, vs, rfl, hp, rr⟩ := c1 c
    rw [blsD_v hn rr] at hp
    exact cr_all hc pins s σ H _ us Q I r ⟨p, ns, rfl, SqL.of hp, scalar_fin q w rfl⟩
  · cases h
end
/-- whether a value is of the built-in class t -/
def isTy (d : D) (t : String) : Option Bool :=
  if t = "str" ∨ t = "int" ∨ t = "bool" ∨ t = "tuple" ∨ t = "list" ∨ t = "dict" then
    match d with
    | .non => some false
    | .bl _ => some (t == "bool" || t == "int")
    | .int _ => some (t == "int")
    | .str _ => some (t == "str")
    | .tup _ => some (t == "tuple")
    | .lst _ => some (t == "list")
    | .edc => some (t == "dict")
    | _ => none
  else none
def clsName : D → String
  | .non => "NoneType"
  | .bl _ => "bool"
  | .int _ => "int"
  | .str _ => "str"
  | .tup _ => "tuple"
  | .edc => "dict"
  | _ => "list"
theorem isTy_kit {K : PySem.W.Frag} {d : D} {t : String} {b : Bool} (h : isTy d t = some b) : PySem.W.kitOne K (.type (clsName d)) (.type t) = some b := by
  apply kit_ty
  unfold isTy at h
  split at h
  · rename_i ht
    rcases ht with rfl | rfl | rfl | rfl | rfl | rfl <;> (cases d <;> first
      | (cases h; done)
      | (cases h; dsimp only [clsName]; decide +kernel))
  · cases h
theorem tyX_of {k : Kx} {H : Hp} {g : G} {d : D} {v : V} {t : String} {b : Bool} (h : isTy d t = some b) (c : CRep k H g d v) : TyX k.K H v (.type (clsName d)) := by
  cases d with
  | non => cases c; exact .base .non
  | bl x => cases c; exact .base (.bl x)
  | int i => cases c; exact .base (.int i)
  | str x => cases c; exact .base (.str _)
  | tup ds =>
    obtain ⟨a, vs, rfl, hs, _⟩ := c
    rcases hs with hs | ⟨⟨o, its, n, hk, hc, _⟩, _⟩
    · exact .base (.tup hs)
    · exact .kTuple hk hc
  | lst ds =>
    obtain ⟨a, vs, rfl, hs, _⟩ := c
    exact .base (.lst hs)
  | edc =>
    obtain ⟨a, rfl, _, hs⟩ := c
    exact .base (.dK hs)
  | _ => unfold isTy at h; split at h <;> cases h
def isTyA (d : D) : List D → Option Bool
  | [] => some false
  | .ty t :: ts => match isTy d t, isTyA d ts with
    | some b, some r => some (b || r)
    | _, _ => none
  | _ :: _ => none
def bIsI : List D → Option D
  | [d, .ty t] => (isTy d t).map .bl
  | [d, .tup ts] => if ts = [] then none else (isTyA d ts).map .bl
  | _ => none
theorem tys_of {k : Kx} {H : Hp} {g : G} {d : D} : ∀ {ts : List D} {vs : List V} {b : Bool}, isTyA d ts = some b → RepL k H g ts vs → ∃ us, Paired ClsV vs us ∧ PySem.W.kitAny k.K (.type (clsName d)) us = some b
  | [], _, b, h, r => by
    cases h
    cases (show _ = [] from r)
    exact ⟨[], .nil, rfl⟩
  | .ty t :: ts, _, b, h, ⟨v, u, h1, h2, h3⟩ => by
    simp only [isTyA] at h
    split at h
    · rename_i b1 b2 e1 e2
      cases h
      obtain ⟨us, p, q⟩ := tys_of e2 h3
      cases h2
      subst h1
      refine ⟨_, .cons (.ty t) p, kitAny_cons (isTy_kit e1) (fun e => ?_) (fun e => ?_)⟩
      · rw [e]; exact q
      · rw [e]; rfl
    · cases h
  | .non :: _, _, _, h, _ => by cases h
  | .bl _ :: _, _, _, h, _ => by cases h
  | .int _ :: _, _, _, h, _ => by cases h
  | .str _ :: _, _, _, h, _ => by cases h
  | .tup _ :: _, _, _, h, _ => by cases h
  | .lst _ :: _, _, _, h, _ => by cases h
  | .obj _ :: _, _, _, h, _ => by cases h
  | .gl _ :: _, _, _, h, _ => by cases h
  | .scr _ :: _, _, _, h, _ => by cases h
section
variable {X : Cx}
theorem bIsI_ok : CallC X (.builtin "isinstance") bIsI := by
  rintro ds res h pins s σ H xs us Q I r ⟨g, S, w, c, q⟩
  unfold bIsI at h
  split at h
  · obtain ⟨b, hb, rfl⟩ := Option.map_eq_some_iff.mp h
    obtain ⟨v, u, rfl, cv, cv'⟩ := c2 c
    cases cv'
    exact call_isi pins s σ H _ us Q I r ⟨v, _, _, _, b, rfl, .ty _, tyX_of hb cv, isTy_kit hb, scalar_fin q w rfl⟩
  · rename_i d ts
    split at h
    · cases h
    · rename_i hne
      obtain ⟨b, hb, rfl⟩ := Option.map_eq_some_iff.mp h
      obtain ⟨v, u, rfl, cv, p, vs, rfl, hs, rr⟩ := c2 c
      obtain ⟨us', hp, hk⟩ := tys_of hb rr
      have ht : TyX X.K H v (.type (clsName d)) := by
        cases ts with
        | nil => exact absurd rfl hne
        | cons t ts =>
          cases t with
          | ty n =>
            simp only [isTyA] at hb
            split at hb
            · rename_i e1 e2; exact tyX_of e1 cv
            · cases hb
          | _ => cases hb
      rcases hs with hs | ⟨⟨⟨oc, od, dt, osl⟩, its, n, hk', hc, hd, hz, hv⟩, _⟩
      · exact call_isiT pins s σ H _ us Q I r ⟨v, p, vs, _, us', b, rfl, hs, hp, ht, hk, scalar_fin q w rfl⟩
      · have hc' : oc = .type "tuple" := hc
        have hd' : dt = .seq its n := hd
        subst hc' hd'
        have e := ClsV.all hp hv
        subst e
        exact call_isiK pins s σ H _ us Q I r ⟨v, p, od, its.toList, n, osl, _, b, rfl, hk', ht, hk, scalar_fin q w rfl⟩
  · cases h
end
end Rf
set_option Elab.async false
set_option linter.all false
set_option maxRecDepth 100000
namespace Rf
open PySem L2 TL
def strsD : List D → Option (List (List Nat))
  | [] => some []
  | .str x :: ds => (strsD ds).map (x :: ·)
  | _ :: _ => none
def eM1 (o : List Nat → D → Option D) (mo me : EM) : EM := fun L S => (mo L S).bind fun d S1 => match d with
  | .str a => (me L S1).bind fun d2 S2 => lift (o a (deref S2 d2)) S2
  | _ => .no
def eM0 (o : D → Option D) (mo : EM) : EM := fun L S => (mo L S).bind fun d S1 => lift (o d) S1
abbrev Fn := List D → Sto → R D
/-- the promise of a def that does c -/
def spC (k : Kx) (c : Fn) : Sp := fun vs H Q E => ∃ ds S g, RepL k H g ds vs ∧ WF k H g S ∧ Post k (Rep k) H g E (c ds S) Q
theorem spC.kc {k k' : Kx} {c : Fn} {vs : List V} {H : Hp} {Q : VK} {E : XK} (h1 : k'.K = k.K) (h2 : k'.mg = k.mg) (h3 : k'.w = k.w) (h : spC k c vs H Q E) : spC k' c vs H Q E := by
  obtain ⟨ds, S, g, r, w, p⟩ := h
  exact ⟨ds, S, g, RepL.kc h1 h2 _ _ r, w.kc h1 h2 h3, p.kc h1 h2 h3⟩
structure RoomG (k : Nat) (A : Around) : Prop extends Room k A where
  gd : A.guards = some []
theorem RoomG.mono {j k : Nat} {A : Around} (r : RoomG k A) (h : j ≤ k) : RoomG j A := ⟨r.toRoom.mono h, r.gd⟩
theorem RoomG.deeper {k : Nat} {A : Around} (r : RoomG (k + 1) A) (env : Env) : RoomG k (A.deeper env) := ⟨r.toRoom.deeper env, r.gd⟩
/-- a def's promise where no repr is under way -/
structure FnOkG (P : Program) (w : World) (K : PySem.W.Frag) (mg : Str → Option Value) (base : Heap) (CX : CXT) (k : Nat) (f : Addr) (fd : FuncData) (ps : List Str) (sp : Sp) : Prop where
  len : ∀ vs H Q E, sp vs H Q E → vs.length = ps.length
  run : ∀ (A : Around) (outer : List Env) (s : Shared) (H : Hp) (args : Args) (us : List Value) (vs : List V) (Q : VK) (E : XK), RoomG k A → Env0 P w K mg base A outer s H → BindsTo s fd args (ps.zip us) → Vals vs us → sp vs H Q E →
    codeAny (model P w) A (.call (.ref f) args) (CR CX outer P w H s Q E) s
section
variable {X : Cx} {CX : CXT} {k n : Nat} {f C : Addr} {fd : FuncData} {ps ks : List Str} {sp : Sp} {dvs : List V} {ds : List Value} {E : L2.St → XK} {E0 : XK} {x : Str} {p pos : Pos} {e : Expr} {es : List Expr} {kws : List Keyword} {t tk : TA} {g : List Value → List Value → List Value} {gV : List V → List V → List V}
/-- what a call comes to, whatever binds -/
theorem run_any {pins : List (Addr × Obj)} {σ : L2.St} {H : Hp} {s : Shared} {Q : VK} {args : Args} {us : List Value} {vs : List V} (F : FnOkG X.prog X.w X.K X.mg X.base CX k f fd ps sp) (hr : RoomG k X.A) (hx : PassesAt CX X σ E0)
    (I : Inv X pins σ H s) (b : BindsTo s fd args (ps.zip us)) (r : Vals vs us) (h : sp vs H Q E0) : wpAny (model X.prog X.w) X.A (call (.ref f) args.pos args.kw) (EP X pins σ Q) X.xe s := by
  refine wpAny_call (codeAny_mono (F.run X.A X.stack s H args us vs Q E0 hr I.env0 b r h) fun r s' hq => ?_)
  match r, hq with
  | .error e, hq => exact hx pins H s e s' I hq
  | .ok (.ret u), hq => exact I.after hq
theorem run_fnG {pins : List (Addr × Obj)} {σ : L2.St} {H : Hp} {s : Shared} {Q : VK} {us : List Value} {vs : List V} (F : FnOkG X.prog X.w X.K X.mg X.base CX k f fd ps sp) (hr : RoomG k X.A) (hb : Binds X.K fd ps ds) (hd : Vals dvs ds) (hx : PassesAt CX X σ E0)
    (I : Inv X pins σ H s) (r : Vals vs us) (h : sp (vs ++ dvs) H Q E0) : wpAny (model X.prog X.w) X.A (call (.ref f) us) (EP X pins σ Q) X.xe s :=
  run_any F hr hx I (hb s us I.kIn (by rw [← (r.append hd).length]; exact F.len _ _ _ _ h)) (r.append hd) h
theorem run_fnG0 {pins : List (Addr × Obj)} {σ : L2.St} {H : Hp} {s : Shared} {Q : VK} {us : List Value} {vs : List V} (F : FnOkG X.prog X.w X.K X.mg X.base CX k f fd ps sp) (hr : RoomG k X.A) (hb : Binds X.K fd ps []) (hx : PassesAt CX X σ E0)
    (I : Inv X pins σ H s) (r : Vals vs us) (h : sp vs H Q E0) : wpAny (model X.prog X.w) X.A (call (.ref f) us) (EP X pins σ Q) X.xe s :=
  run_fnG (dvs := []) F hr hb .nil hx I r (by rw [List.append_nil]; exact h)
theorem pe_callG (F : FnOkG X.prog X.w X.K X.mg X.base CX k f fd ps sp) (hr : RoomG k X.A) (hg : Gl X x) (hm : X.mg x = some (.ref f)) (hk : PySem.W.keepIn X.K (.ref f) = true) (hb : Binds X.K fd ps ds) (hd : Vals dvs ds) (hx : ∀ σ, PassesAt CX X σ (E σ))
    (ha : PA X (e :: es) t) (hdb : (x == ("__debug__" : Str)) = false) (he : starEach (e :: es) X.env = (false, eval e X.env) :: starEach es X.env) (hpl : (backTo pos (starEach es X.env)).any (·.1) = false) :
    PE X (.Call (.Name x p) (e :: es) [] pos) (tCallSD sp dvs E t) :=
  ⟨fun pins s σ H Q I h => wpAny_Call_Name_kw (ld_glob I hg hm (PySem.W.callWith_K (h₀ := X.base) I.ok.mod.kin hk (thn (ha.run pos pins s σ H _ I h) fun us s1 ⟨vs, H1, I1, r, q⟩ => ⟨I1.kIn, run_fnG F hr hb hd (hx σ) I1 r q⟩) he hpl) hdb)⟩
end
/-- the name x stands for a def that does c -/
def FnAt (X : Cx) (x : Str) (c : Fn) : Prop := ∃ (j : Nat) (f : Addr) (fd : FuncData) (ps : List Str), FnOkG X.prog X.w X.K X.mg X.base (L2.CX X.prog X.w) j f fd ps (spC (k0 X.K X.mg X.w) c) ∧ RoomG j X.A ∧
  X.mg x = some (.ref f) ∧ PySem.W.keepIn X.K (.ref f) = true ∧ Binds X.K fd ps []
def eFn (c : Fn) (ma : Ls → Sto → R (List D)) : EM := fun L S => (ma L S).bind c
section
variable {X : Cx} {W : WX} {e : Expr} {es : List Expr} {x : Str} {p pos : Pos} {c : Fn} {ma : Ls → Sto → R (List D)}
theorem se_call (F : FnAt X x c) (hg : Gl X x) (tk : Takes X W) (ha : SAE X W (e :: es) ma) (hs : (e :: es).all noStar = true) (hdb : (x == ("__debug__" : Str)) = false) : SE X W (.Call (.Name x p) (e :: es) [] pos) (eFn c ma) := by
  obtain ⟨j, f, fd, ps, F, hr, hm, hk, hb⟩ := F
  have hs' : noStar e = true ∧ es.all noStar = true := by rwa [List.all_cons, Bool.and_eq_true] at hs
  exact PE.imp (pe_callG (dvs := []) F hr hg hm hk hb .nil (fun σ => passAt tk σ) ha hdb (star_cons hs'.1) (star_any hs'.2)) fun σ H Q ⟨L, S, g, l, w, p⟩ => ⟨L, S, g, l, w, Post.bind p fun ds S1 vs H1 g1 e1 w1 r1 p1 => by
    rw [List.append_nil]
    exact spC.kc (k := kx X) rfl rfl rfl ⟨ds, S1, g1, r1, w1, p1⟩⟩
theorem se_call0 (F : FnAt X x c) (hg : Gl X x) (tk : Takes X W) (hdb : (x == ("__debug__" : Str)) = false) : SE X W (.Call (.Name x p) [] [] pos) (eFn c aNil) := by
  obtain ⟨j, f, fd, ps, F, hr, hm, hk, hb⟩ := F
  refine ⟨fun pins s σ H Q I ⟨L, S, g, l, w, p⟩ => ?_⟩
  refine wpAny_Call_Name_kw (ld_glob I hg hm ?_ hdb)
  exact PySem.W.callWith_K0 I.kIn hk (run_fnG0 (us := []) F hr hb (passAt tk σ) I .nil (spC.kc (k := kx X) rfl rfl rfl ⟨[], S, g, rfl, w, p⟩))
end
end Rf
set_option Elab.async false
set_option linter.all false
set_option maxRecDepth 100000
namespace Rf
open PySem L2 TL
/-- the lists of the store that must stay as they are -/
abbrev Dep := Option (List (Nat × List D))
def DepC (S : Sto) (l : List (Nat × List D)) : Prop := ∀ p ∈ l, S[p.1]? = some (.lst p.2)
abbrev Src := List D × Dep
def DepOk (S : Sto) (ds : List D) : Dep → Prop
  | none => True
  | some l => DepC S l
/-- whatever has gone on by Rl, the walk yields the items -/
def Yields (k : Kx) (Rl : Hp → G → Hp → G → Prop) (J : It) (H : Hp) (g : G) (ds : List D) (dep : Dep) : Prop :=
  ∀ H2 g2 S2 i, Rl H g H2 g2 → WF k H2 g2 S2 → DepOk S2 ds dep → (ds.length = i → J.stop i H2) ∧
    ∀ d, ds[i]? = some d → J.go i H2 ∧ ∀ x H3, J.yld i H2 x H3 → Ext H2 g2 H3 g2 ∧ WF k H3 g2 S2 ∧ Rep k H3 g2 d x
/-- a relation that keeps what stands -/
def Rl1 (Rl : Hp → G → Hp → G → Prop) : Prop := ∀ H g H' g', Rl H g H' g' → PExt H g H' g'
section
variable {k : Kx} {Rl : Hp → G → Hp → G → Prop} {H : Hp} {g : G} {S : Sto} {a : Addr} {vs : List V} {ds : List D}
theorem yl_list (hR : Rl1 Rl) (hk : ∀ H2 g2, Rl H g H2 g2 → H2 a = some (.lst vs)) (r : RepL k H g ds vs) : Yields k Rl (Itl k.K a) H g ds none := fun H2 g2 S2 i rl w _ => by
  have h2 : SqL k.K H2 a vs := SqL.of (hk H2 g2 rl)
  refine ⟨fun e => ⟨vs, h2, by rw [r.length, e]; exact Nat.le_refl _⟩, fun d hd => ?_⟩
  obtain ⟨v, hv, rv⟩ := r.get hd
  refine ⟨⟨vs, v, h2, hv⟩, fun x H3 ⟨e, y⟩ => ?_⟩
  subst e
  have := y vs h2
  rw [hv] at this
  cases this
  exact ⟨Ext.refl _ _, w, rv.mono (hR _ _ _ _ rl) _ _⟩
theorem yl_obj {n : Nat} (hR : Rl1 Rl) (hn : n < g.n) : Yields k Rl (Itl k.K (g.ρ n)) H g ds (some [(n, ds)]) := fun H2 g2 S2 i rl w dep => by
  obtain ⟨us, h2, r⟩ := w.ob n _ (dep (n, ds) (List.mem_singleton.mpr rfl))
  rw [(hR _ _ _ _ rl).ρ n hn] at h2
  have h3 : SqL k.K H2 (g.ρ n) us := SqL.of h2
  refine ⟨fun e => ⟨us, h3, by rw [r.length, e]; exact Nat.le_refl _⟩, fun d hd => ?_⟩
  obtain ⟨v, hv, rv⟩ := r.get hd
  refine ⟨⟨us, v, h3, hv⟩, fun x H3 ⟨e, y⟩ => ?_⟩
  subst e
  have := y us h3
  rw [hv] at this
  cases this
  exact ⟨Ext.refl _ _, w, rv⟩
theorem yl_scr {ns : List Int} (hR : Rl1 Rl) (h : ScrAt k.K H a (ns.map V.int)) : Yields k Rl (Itl k.K a) H g (ns.map .int) none := fun H2 g2 S2 i rl w _ => by
  have h2 : SqL k.K H2 a (ns.map V.int) := (scrAt_mono (k := k) (hR _ _ _ _ rl) h).sq
  have r : RepL k H g (ns.map .int) (ns.map V.int) := RepL.ints ns
  refine ⟨fun e => ⟨_, h2, by rw [r.length, e]; exact Nat.le_refl _⟩, fun d hd => ?_⟩
  obtain ⟨v, hv, rv⟩ := r.get hd
  refine ⟨⟨_, v, h2, hv⟩, fun x H3 ⟨e, y⟩ => ?_⟩
  subst e
  have := y _ h2
  rw [hv] at this
  cases this
  exact ⟨Ext.refl _ _, w, rv.mono (hR _ _ _ _ rl) _ _⟩
theorem yl_tup (hR : Rl1 Rl) (h : TupAt k.K H a vs) (r : RepL k H g ds vs) : Yields k Rl (Itt k.K a) H g ds none := fun H2 g2 S2 i rl w _ => by
  have h2 : SqT k.K H2 a vs := (tupAt_mono (k := k) (hR _ _ _ _ rl) h).sq
  refine ⟨fun e => ⟨vs, h2, by rw [r.length, e]; exact Nat.le_refl _⟩, fun d hd => ?_⟩
  obtain ⟨v, hv, rv⟩ := r.get hd
  refine ⟨⟨vs, v, h2, hv⟩, fun x H3 ⟨e, y⟩ => ?_⟩
  subst e
  have := y vs h2
  rw [hv] at this
  cases this
  exact ⟨Ext.refl _ _, w, rv.mono (hR _ _ _ _ rl) _ _⟩
def strI (x : List Nat) : List D := x.map fun c => .str [c]
theorem yl_str {x : List Nat} : Yields k Rl (Its ⟨x.toArray⟩) H g (strI x) none := fun H2 g2 S2 i rl w _ => by
  refine ⟨fun e => ?_, fun d hd => ?_⟩
  · show (⟨x.toArray⟩ : Str).cps.size ≤ i
    rw [← e]
    simp [strI]
  · unfold strI at hd
    rw [List.getElem?_map, Option.map_eq_some_iff] at hd
    obtain ⟨c, hc, rfl⟩ := hd
    have hi := (List.getElem?_eq_some_iff.mp hc).1
    refine ⟨by show i < (⟨x.toArray⟩ : Str).cps.size; simpa using hi, fun v H3 ⟨e, c', hc', ev⟩ => ?_⟩
    subst e
    have : x[i]? = some c' := by simpa using hc'
    rw [hc] at this
    cases this
    exact ⟨Ext.refl _ _, w, ev⟩
def rngI (lo : Int) (n : Nat) : List D := (List.range n).map fun (i : Nat) => .int (lo + i)
theorem yl_rng {lo : Int} {n : Nat} : Yields k Rl (Itr lo n) H g (rngI lo n) none := fun H2 g2 S2 i rl w _ => by
  refine ⟨fun e => ?_, fun d hd => ?_⟩
  · show n ≤ i
    rw [← e]
    simp [rngI]
  · unfold rngI at hd
    rw [List.getElem?_map, Option.map_eq_some_iff] at hd
    obtain ⟨c, hc, rfl⟩ := hd
    obtain ⟨hi, ec⟩ := List.getElem?_eq_some_iff.mp hc
    rw [List.length_range] at hi
    rw [List.getElem_range] at ec
    subst ec
    refine ⟨hi, fun v H3 ⟨e, ev⟩ => ?_⟩
    subst e
    exact ⟨Ext.refl _ _, w, ev⟩
def pairI (ds es : List D) : List D := (ds.zip es).map fun p => .tup [p.1, p.2]
theorem pair_at {ds es : List D} {i : Nat} {d : D} (h : (pairI ds es)[i]? = some d) : ∃ a b, ds[i]? = some a ∧ es[i]? = some b ∧ d = .tup [a, b] := by
  unfold pairI at h
  rw [List.getElem?_map, Option.map_eq_some_iff] at h
  obtain ⟨⟨a, b⟩, hp, rfl⟩ := h
  rw [List.getElem?_zip_eq_some] at hp
  exact ⟨a, b, hp.1, hp.2, rfl⟩
theorem pair_new {H2 : Hp} {g2 : G} {S2 : Sto} {T : Addr} {a b : D} {x y : V} (w : WF k H2 g2 S2) (hT : H2 T = none) (ra : Rep k H2 g2 a x) (rb : Rep k H2 g2 b y) :
    Ext H2 g2 (upd H2 T (.tup [x, y])) g2 ∧ WF k (upd H2 T (.tup [x, y])) g2 S2 ∧ Rep k (upd H2 T (.tup [x, y])) g2 (.tup [a, b]) (.ref T) :=
  ⟨Ext.new hT, w.new hT, T, [x, y], rfl, .inl upd_same, x, [y], rfl, ra.mono (Ext.new hT).toPExt _ _, y, [], rfl, rb.mono (Ext.new hT).toPExt _ _, rfl⟩
theorem pairI_len (ds es : List D) : (pairI ds es).length = min ds.length es.length := by simp [pairI]
theorem yl_zip {b : Addr} {us : List V} {es : List D} (hR : Rl1 Rl) (hk : ∀ H2 g2, Rl H g H2 g2 → SqL k.K H2 a vs) (hk' : ∀ H2 g2, Rl H g H2 g2 → SqL k.K H2 b us) (r : RepL k H g ds vs) (r' : RepL k H g es us) : Yields k Rl (Itz k.K a b) H g (pairI ds es) none := fun H2 g2 S2 i rl w _ => by
  have h2 := hk H2 g2 rl
  have h2' := hk' H2 g2 rl
  refine ⟨fun e => ⟨vs, us, h2, h2', ?_⟩, fun d hd => ?_⟩
  · rw [pairI_len] at e
    rw [r.length, r'.length]
    omega
  obtain ⟨p, q, h3, h4, rfl⟩ := pair_at hd
  obtain ⟨v, hv, rv⟩ := r.get h3
  obtain ⟨u, hu, ru⟩ := r'.get h4
  refine ⟨⟨vs, us, v, u, h2, h2', hv, hu⟩, fun x H3 ⟨T, y, z, ex, hT, eH, hy, hz⟩ => ?_⟩
  subst ex eH
  have e1 := hy vs h2
  have e2 := hz us h2'
  rw [hv] at e1; rw [hu] at e2
  cases e1; cases e2
  exact pair_new w hT (rv.mono (hR _ _ _ _ rl) _ _) (ru.mono (hR _ _ _ _ rl) _ _)
theorem yl_zipO {n m : Nat} {es : List D} (hR : Rl1 Rl) (hn : n < g.n) (hm : m < g.n) : Yields k Rl (Itz k.K (g.ρ n) (g.ρ m)) H g (pairI ds es) (some [(n, ds), (m, es)]) := fun H2 g2 S2 i rl w dep => by
  obtain ⟨us, h2, r⟩ := w.ob n _ (dep (n, ds) (List.mem_cons_self ..))
  obtain ⟨vs, h2', r'⟩ := w.ob m _ (dep (m, es) (List.mem_cons_of_mem _ (List.mem_singleton.mpr rfl)))
  rw [(hR _ _ _ _ rl).ρ n hn] at h2
  rw [(hR _ _ _ _ rl).ρ m hm] at h2'
  replace r : RepL k H2 g2 ds us := r
  replace r' : RepL k H2 g2 es vs := r'
  have h5 : SqL k.K H2 (g.ρ n) us := SqL.of h2
  have h6 : SqL k.K H2 (g.ρ m) vs := SqL.of h2'
  refine ⟨fun e => ⟨us, vs, h5, h6, ?_⟩, fun d hd => ?_⟩
  · rw [pairI_len] at e
    rw [r.length, r'.length]
    omega
  obtain ⟨p, q, h3, h4, rfl⟩ := pair_at hd
  obtain ⟨v, hv, rv⟩ := r.get h3
  obtain ⟨u, hu, ru⟩ := r'.get h4
  refine ⟨⟨us, vs, v, u, h5, h6, hv, hu⟩, fun x H3 ⟨T, y, z, ex, hT, eH, hy, hz⟩ => ?_⟩
  subst ex eH
  have e1 := hy us h5
  rw [hv] at e1
  cases e1
  have e2 := hz vs h6
  rw [hu] at e2
  cases e2
  exact pair_new w hT rv ru
theorem yl_zipT {b : Addr} {us : List V} {es : List D} (hR : Rl1 Rl) (h : TupAt k.K H a vs) (h' : TupAt k.K H b us) (r : RepL k H g ds vs) (r' : RepL k H g es us) : Yields k Rl (RZ.ItzT k.K a b) H g (pairI ds es) none := fun H2 g2 S2 i rl w _ => by
  have h2 : SqT k.K H2 a vs := (tupAt_mono (k := k) (hR _ _ _ _ rl) h).sq
  have h2' : SqT k.K H2 b us := (tupAt_mono (k := k) (hR _ _ _ _ rl) h').sq
  refine ⟨fun e => ⟨vs, us, h2, h2', ?_⟩, fun d hd => ?_⟩
  · rw [pairI_len] at e
    rw [r.length, r'.length]
    omega
  obtain ⟨p, q, h3, h4, rfl⟩ := pair_at hd
  obtain ⟨v, hv, rv⟩ := r.get h3
  obtain ⟨u, hu, ru⟩ := r'.get h4
  refine ⟨⟨vs, us, v, u, h2, h2', hv, hu⟩, fun x H3 ⟨T, y, z, ex, hT, eH, hy, hz⟩ => ?_⟩
  subst ex eH
  have e1 := hy vs h2
  have e2 := hz us h2'
  rw [hv] at e1; rw [hu] at e2
  cases e1; cases e2
  exact pair_new w hT (rv.mono (hR _ _ _ _ rl) _ _) (ru.mono (hR _ _ _ _ rl) _ _)
end
end Rf
set_option Elab.async false
set_option linter.all false
set_option maxRecDepth 100000
namespace Rf
open PySem L2 TL
abbrev OpP := L2.St → Ls → Hp → G → D → V → Prop
def tQ (k : Kx) (W : WX) (P : OpP) (m : EM) : TE := fun σ H Q => ∃ L S g, LocRel k σ L H g ∧ WF k H g S ∧ Post k (P σ L) H g (fun c d => W c d σ) (m L S) Q
def PL (P : OpP) (σ : L2.St) (L : Ls) (H : Hp) (g : G) : List D → List V → Prop
  | [], vs => vs = []
  | d :: ds, vs => ∃ v r, vs = v :: r ∧ P σ L H g d v ∧ PL P σ L H g ds r
def tQA (k : Kx) (W : WX) (P : OpP) (m : Ls → Sto → R (List D)) : TA := fun σ H Q => ∃ L S g, LocRel k σ L H g ∧ WF k H g S ∧ Post k (PL P σ L) H g (fun c d => W c d σ) (m L S) Q
/-- a value that may be walked while Rl holds -/
def MdRep (k : Kx) (Rl : Hp → G → Hp → G → Prop) (H : Hp) (g : G) : D → V → Prop
  | .lst ds, v => ∃ a vs, v = .ref a ∧ H a = some (.lst vs) ∧ (∀ H2 g2, Rl H g H2 g2 → H2 a = some (.lst vs)) ∧ RepL k H g ds vs
  | d, v => Rep k H g d v
/-- operands of kind P may be walked under Rl -/
structure Md (k : Kx) (Rl : Hp → G → Hp → G → Prop) (P : OpP) : Prop where
  r1 : Rl1 Rl
  md : ∀ {σ L H g d v}, LocRel k σ L H g → P σ L H g d v → MdRep k Rl H g d v
  pk : ∀ {σ L H g d v}, P σ L H g d v → PkRep k σ L H g d v
def PRep (k : Kx) : OpP := fun _ _ => Rep k
def PPk (k : Kx) : OpP := PkRep k
theorem md_p {k : Kx} : Md k PExt (PRep k) where
  r1 := fun _ _ _ _ h => h
  md := fun {σ L H g d v} _ h => by
    cases d with
    | lst ds => obtain ⟨a, vs, h1, h2, h3, h4⟩ := (show Rep k H g (.lst ds) v from h); exact ⟨a, vs, h1, h3, fun H2 g2 e => e.kF _ _ h2 h3, h4⟩
    | _ => exact h
  pk := fun h => .inl h
theorem md_e {k : Kx} : Md k Ext (PPk k) where
  r1 := fun _ _ _ _ h => h.toPExt
  md := fun {σ L H g d v} l h => by
    rcases (show PkRep k σ L H g d v from h) with h | ⟨i, ds, h1, rfl, h3⟩
    · cases d with
      | lst ds => obtain ⟨a, vs, h1, h2, h3, h4⟩ := h; exact ⟨a, vs, h1, h3, fun H2 g2 e => e.kF _ _ h2 h3, h4⟩
      | _ => exact h
    · obtain ⟨a, q, ⟨vs, e, r⟩, h4, h5⟩ := l.own i _ h1
      rw [h3] at q
      cases q
      exact ⟨a, vs, rfl, e, fun H2 g2 x => x.keep _ _ e h5, r⟩
  pk := fun h => h
theorem PI.or {X : Cx} {tg e : Expr} {w1 w2 : TI} (h1 : PI X tg e w1) (h2 : PI X tg e w2) : PI X tg e (fun σ H R => w1 σ H R ∨ w2 σ H R) := ⟨fun pins s σ H R I h => h.elim (h1.run pins s σ H R I) (h2.run pins s σ H R I)⟩
theorem PI.imp {X : Cx} {tg e : Expr} {t t' : TI} (h : PI X tg e t) (i : ∀ σ H Q, t' σ H Q → t σ H Q) : PI X tg e t' := ⟨fun pins s σ H Q I q => h.run pins s σ H Q I (i σ H Q q)⟩
def tI (k : Kx) (Rl : Hp → G → Hp → G → Prop) (W : WX) (m : Ls → Sto → R Src) : TI := fun σ H Q => ∃ L S g, LocRel k σ L H g ∧ WF k H g S ∧
  Post k (fun H' g' (s : Src) (J : It) => Yields k Rl J H' g' s.1 s.2) H g (fun c d => W c d σ) (m L S) Q
def srcOf (S : Sto) : D → Option Src
  | .lst ds => some (ds, none)
  | .tup ds => some (ds, none)
  | .str x => some (strI x, none)
  | .scr ns => some (ns.map .int, none)
  | .obj n => match S[n]? with
    | some (.lst ds) => some (ds, some [(n, ds)])
    | _ => none
  | _ => none
def iVal (m : EM) : Ls → Sto → R Src := fun L S => (m L S).bind fun d S1 => lift (srcOf S1 d) S1
def rng1 : List D → Option Src
  | [.int j] => if -(2 ^ 62) ≤ j ∧ j < 2 ^ 62 then some (rngI 0 j.toNat, none) else none
  | _ => none
def zipOf : List D → Option Src
  | [.lst ds, .lst es] => some (pairI ds es, none)
  | [.tup ds, .tup es] => some (pairI ds es, none)
  | _ => none
def zipS (S : Sto) : List D → Option Src
  | [.obj n, .obj m] => match S[n]?, S[m]? with
    | some (.lst ds), some (.lst es) => some (pairI ds es, some [(n, ds), (m, es)])
    | _, _ => none
  | ds => zipOf ds
def iArS (o : Sto → List D → Option Src) (ma : Ls → Sto → R (List D)) : Ls → Sto → R Src := fun L S => (ma L S).bind fun ds S1 => lift (o S1 ds) S1
def iArgs (o : List D → Option Src) (ma : Ls → Sto → R (List D)) : Ls → Sto → R Src := fun L S => (ma L S).bind fun ds S1 => lift (o ds) S1
section
variable {X : Cx} {W : WX} {Rl : Hp → G → Hp → G → Prop} {P : OpP} {tg e : Expr} {m : EM}
theorem si_val (M : Md (kx X) Rl P) (h : PE X e (tQ (kx X) W P m)) : PI X tg e (tI (kx X) Rl W (iVal m)) :=
  PI.imp (Rf.PI.or (pi_list h) (Rf.PI.or (pi_tup h) (pi_str h))) fun σ H Q ⟨L, S, g, l, w, p⟩ => by
    unfold iVal at p
    cases q : m L S with
    | no => rw [q] at p; exact p.elim
    | ex x S' => rw [q] at p; exact .inl ⟨L, S, g, l, w, by rw [q]; exact p⟩
    | ok d S1 =>
      rw [q] at p
      have p0 : Post (kx X) (fun H' g' (s : Src) (J : It) => Yields (kx X) Rl J H' g' s.1 s.2) H g (fun c d => W c d σ) (lift (srcOf S1 d) S1) Q := p
      cases z : srcOf S1 d with
      | none => rw [z] at p0; exact p0.elim
      | some src =>
        rw [z] at p0
        have p1 : ∀ J H1 g1, Ext H g H1 g1 → WF (kx X) H1 g1 S1 → Yields (kx X) Rl J H1 g1 src.1 src.2 → Q J H1 := fun J H1 g1 e2 w1 y => p0 J H1 g1 e2 w1 y
        cases d with
        | lst ds =>
          cases z
          refine .inl ⟨L, S, g, l, w, ?_⟩
          rw [q]
          intro v H1 g1 e1 w1 r1
          obtain ⟨a, vs, rfl, h0, h1, h2⟩ := M.md (l.ext e1) r1
          exact ⟨a, rfl, ⟨vs, SqL.of h0⟩, p1 _ _ g1 e1 w1 (yl_list M.r1 h1 h2)⟩
        | tup ds =>
          cases z
          refine .inr (.inl ⟨L, S, g, l, w, ?_⟩)
          rw [q]
          intro v H1 g1 e1 w1 r1
          obtain ⟨a, vs, rfl, h1, h2⟩ := M.md (l.ext e1) r1
          exact ⟨a, rfl, ⟨vs, h1.sq⟩, p1 _ _ g1 e1 w1 (yl_tup M.r1 h1 h2)⟩
        | str x =>
          cases z
          refine .inr (.inr ⟨L, S, g, l, w, ?_⟩)
          rw [q]
          intro v H1 g1 e1 w1 r1
          cases (show v = .str ⟨x.toArray⟩ from M.md (l.ext e1) r1)
          exact ⟨_, rfl, p1 _ _ g1 e1 w1 yl_str⟩
        | scr ns =>
          cases z
          refine .inl ⟨L, S, g, l, w, ?_⟩
          rw [q]
          intro v H1 g1 e1 w1 r1
          obtain ⟨a, rfl, h1⟩ := M.md (l.ext e1) r1
          exact ⟨a, rfl, ⟨_, h1.sq⟩, p1 _ _ g1 e1 w1 (yl_scr M.r1 h1)⟩
        | obj n =>
          refine .inl ⟨L, S, g, l, w, ?_⟩
          rw [q]
          intro v H1 g1 e1 w1 r1
          obtain ⟨hn, rfl⟩ := M.md (l.ext e1) r1
          simp only [srcOf] at z
          split at z
          · rename_i ds hd
            cases z
            obtain ⟨vs, h1, h2⟩ := w1.ob n _ hd
            exact ⟨_, rfl, ⟨vs, SqL.of h1⟩, p1 _ _ g1 e1 w1 (yl_obj M.r1 hn)⟩
          · cases z
        | _ => cases z
variable {a b : Expr} {ma : Ls → Sto → R (List D)} {p pos : Pos}
theorem arg1 {ds : List D} {d : D} {σ : L2.St} {L : Ls} {H : Hp} {g : G} {vs : List V} (h : PL P σ L H g [d] vs) : ∃ v, vs = [v] ∧ P σ L H g d v := by
  obtain ⟨v, r, h1, h2, h3⟩ := h
  cases (show r = [] from h3)
  exact ⟨v, h1, h2⟩
theorem arg2 {d d' : D} {σ : L2.St} {L : Ls} {H : Hp} {g : G} {vs : List V} (h : PL P σ L H g [d, d'] vs) : ∃ v u, vs = [v, u] ∧ P σ L H g d v ∧ P σ L H g d' u := by
  obtain ⟨v, r, h1, h2, h3⟩ := h
  obtain ⟨u, rfl, h4⟩ := arg1 (ds := []) h3
  exact ⟨v, u, h1, h2, h4⟩
theorem pk_int {k : Kx} {σ : L2.St} {L : Ls} {H : Hp} {g : G} {i : Int} {v : V} (h : PkRep k σ L H g (.int i) v) : v = .int i := by
  rcases h with h | ⟨_, _, _, h, _⟩
  · exact h
  · cases h
/-- one more step: from the arguments' items -/
theorem it_fin {k : Kx} {o : List D → Option Src} {σ : L2.St} {H : Hp} {Q : It → Hp → Prop} {R : List V → Hp → Prop} (h : tI k Rl W (iArgs o ma) σ H Q)
    (f : ∀ L ds S1 vs H1 g1 src, LocRel k σ L H1 g1 → WF k H1 g1 S1 → PL P σ L H1 g1 ds vs → o ds = some src → (∀ J, Yields k Rl J H1 g1 src.1 src.2 → Q J H1) → R vs H1) : tQA k W P ma σ H R := by
  obtain ⟨L, S, g, l, w, p⟩ := h
  refine ⟨L, S, g, l, w, Post.bind p fun ds S1 vs H1 g1 e1 w1 r1 p1 => ?_⟩
  cases q : o ds with
  | none => rw [q] at p1; exact p1.elim
  | some src =>
    rw [q] at p1
    exact f L ds S1 vs H1 g1 src (l.ext e1) w1 r1 q fun J y => Post.ret p1 w1 y
theorem si_rng1 (M : Md (kx X) Rl P) (hg : Gl X "range") (hm : X.mg "range" = none) (ha : PA X [a] (tQA (kx X) W P ma)) (hs : noStar a = true) : PI X tg (.Call (.Name "range" p) [a] [] pos) (tI (kx X) Rl W (iArgs rng1 ma)) :=
  PI.imp (pi_range1 hg hm ha (star_cons hs)) fun σ H Q h => it_fin h fun L ds S1 vs H1 g1 src l w r q y => by
    unfold rng1 at q
    split at q
    · split at q
      · rename_i j hz
        cases q
        obtain ⟨v, rfl, hv⟩ := arg1 (ds := []) r
        cases pk_int (M.pk hv)
        exact ⟨j, rfl, hz.1, hz.2, y _ yl_rng⟩
      · cases q
    · cases q
variable {elts : List Expr} {kk : Nat} {tpos : Pos}
end
section
variable {X : Cx} {W : WX} {Rl : Hp → G → Hp → G → Prop} {P : OpP} {a b : Expr} {ma : Ls → Sto → R (List D)} {p pos : Pos} {elts : List Expr} {kk : Nat} {tpos : Pos}
theorem it_finS {k : Kx} {o : Sto → List D → Option Src} {σ : L2.St} {H : Hp} {Q : It → Hp → Prop} {R : List V → Hp → Prop} (h : tI k Rl W (iArS o ma) σ H Q)
    (f : ∀ L ds S1 vs H1 g1 src, LocRel k σ L H1 g1 → WF k H1 g1 S1 → PL P σ L H1 g1 ds vs → o S1 ds = some src → (∀ J, Yields k Rl J H1 g1 src.1 src.2 → Q J H1) → R vs H1) : tQA k W P ma σ H R := by
  obtain ⟨L, S, g, l, w, p⟩ := h
  refine ⟨L, S, g, l, w, Post.bind p fun ds S1 vs H1 g1 e1 w1 r1 p1 => ?_⟩
  cases q : o S1 ds with
  | none => rw [q] at p1; exact p1.elim
  | some src =>
    rw [q] at p1
    exact f L ds S1 vs H1 g1 src (l.ext e1) w1 r1 q fun J y => Post.ret p1 w1 y
theorem pk_obj {k : Kx} {σ : L2.St} {L : Ls} {H : Hp} {g : G} {n : Nat} {v : V} (h : PkRep k σ L H g (.obj n) v) : n < g.n ∧ v = .ref (g.ρ n) := by
  rcases h with h | ⟨_, _, _, h, _⟩
  · exact h
  · cases h
theorem si_zipS (M : Md (kx X) Rl P) (hg : Gl X "zip") (hm : X.mg "zip" = none) (ha : PA X [a, b] (tQA (kx X) W P ma)) (hs : noStar a = true) (hs' : noStar b = true) : PI X (.Tuple elts kk tpos) (.Call (.Name "zip" p) [a, b] [] pos) (tI (kx X) Rl W (iArS zipS ma)) :=
  PI.imp (RZ.pi_zipA hg hm ha (star_cons hs) (star_any (by rw [List.all_cons, hs'] <;> rfl))) fun σ H Q h => it_finS h fun L ds S1 vs H1 g1 src l w r q y => by
    unfold zipS at q
    split at q
    · rename_i n m
      split at q
      · rename_i ds es hd he
        cases q
        obtain ⟨v, u, rfl, hv, hu⟩ := arg2 r
        obtain ⟨hn, rfl⟩ := pk_obj (M.pk hv)
        obtain ⟨hm', rfl⟩ := pk_obj (M.pk hu)
        obtain ⟨us, h1, h2⟩ := w.ob n _ hd
        obtain ⟨us', h1', h2'⟩ := w.ob m _ he
        exact ⟨_, _, us, us', rfl, .inl ⟨SqL.of h1, SqL.of h1', y _ (yl_zipO M.r1 hn hm')⟩⟩
      · cases q
    · unfold zipOf at q
      split at q
      · cases q
        obtain ⟨v, u, rfl, hv, hu⟩ := arg2 r
        obtain ⟨c, vs, rfl, h0, h1, h2⟩ := M.md l hv
        obtain ⟨c', vs', rfl, h0', h1', h2'⟩ := M.md l hu
        exact ⟨c, c', vs, vs', rfl, .inl ⟨SqL.of h0, SqL.of h0', y _ (yl_zip M.r1 (fun H2 g2 e => SqL.of (h1 H2 g2 e)) (fun H2 g2 e => SqL.of (h1' H2 g2 e)) h2 h2')⟩⟩
      · cases q
        obtain ⟨v, u, rfl, hv, hu⟩ := arg2 r
        obtain ⟨c, vs, rfl, h1, h2⟩ := M.md l hv
        obtain ⟨c', vs', rfl, h1', h2'⟩ := M.md l hu
        exact ⟨c, c', vs, vs', rfl, .inr ⟨h1.sq, h1'.sq, y _ (yl_zipT M.r1 h1 h1' h2 h2')⟩⟩
      · cases q
end
theorem pl_pkl {k : Kx} {σ : L2.St} {L : Ls} {H : Hp} {g : G} : ∀ {ds : List D} {vs : List V}, PkL k σ L H g ds vs → PL (PPk k) σ L H g ds vs
  | [], _, h => h
  | _ :: _, _, ⟨v, r, h1, h2, h3⟩ => ⟨v, r, h1, h2, pl_pkl h3⟩
theorem pl_rep {k : Kx} {σ : L2.St} {L : Ls} {H : Hp} {g : G} : ∀ {ds : List D} {vs : List V}, RepL k H g ds vs → PL (PRep k) σ L H g ds vs
  | [], _, h => h
  | _ :: _, _, ⟨v, r, h1, h2, h3⟩ => ⟨v, r, h1, h2, pl_rep h3⟩
theorem Post.imp {α β : Type} {k : Kx} {P P' : Hp → G → α → β → Prop} {H : Hp} {g : G} {W : Value → Option Addr → Hp → Prop} {r : R α} {Q : β → Hp → Prop} (h : Post k P H g W r Q) (i : ∀ H' g' a b, P' H' g' a b → P H' g' a b) : Post k P' H g W r Q := by
  cases r with
  | ok a S => exact fun b H' g' e w p => h b H' g' e w (i _ _ _ _ p)
  | ex x S => exact h
  | no => exact h
theorem SA.q {X : Cx} {W : WX} {es : List Expr} {m : Ls → Sto → R (List D)} (h : SA X W es m) : PA X es (tQA (kx X) W (PPk (kx X)) m) := PA.imp h fun σ H Q ⟨L, S, g, l, w, p⟩ => ⟨L, S, g, l, w, Post.imp p fun _ _ _ _ z => pl_pkl z⟩
theorem SAE.q {X : Cx} {W : WX} {es : List Expr} {m : Ls → Sto → R (List D)} (h : SAE X W es m) : PA X es (tQA (kx X) W (PRep (kx X)) m) := PA.imp h fun σ H Q ⟨L, S, g, l, w, p⟩ => ⟨L, S, g, l, w, Post.imp p fun _ _ _ _ z => pl_rep z⟩
end Rf
set_option Elab.async false
set_option linter.all false
set_option maxRecDepth 100000
namespace Rf
open PySem L2 TL
inductive Tg where
  | nm (i : Nat) | tup (ts : List Tg)
mutual
def tgA : Tg → D → Ls → Option Ls
  | .nm i, d, L => some (L.set i (.v d))
  | .tup ts, .tup ds, L => tgAs ts ds L
  | .tup ts, .lst ds, L => tgAs ts ds L
  | .tup _, _, _ => none
def tgAs : List Tg → List D → Ls → Option Ls
  | [], [], L => some L
  | t :: ts, d :: ds, L => match tgA t d L with
    | some L1 => tgAs ts ds L1
    | none => none
  | _, _, _ => none
end
mutual
def Tg.slots : Tg → List Nat
  | .nm i => [i]
  | .tup ts => Tg.slotsL ts
def Tg.slotsL : List Tg → List Nat
  | [] => []
  | t :: ts => t.slots ++ Tg.slotsL ts
end
/-- what a store of ours leaves -/
def Frm (ss : List Nat) (σ σ' : L2.St) : Prop := σ'.length = σ.length ∧ ∀ j, j ∉ ss → σ'[j]? = σ[j]?
theorem Frm.trans {ss ts : List Nat} {a b c : L2.St} (h : Frm ss a b) (h' : Frm ts b c) : Frm (ss ++ ts) a c :=
  ⟨h'.1.trans h.1, fun j hj => (h'.2 j fun z => hj (List.mem_append_right _ z)).trans (h.2 j fun z => hj (List.mem_append_left _ z))⟩
theorem LocRel.set {k : Kx} {σ : L2.St} {L : Ls} {H : Hp} {g : G} {i : Nat} {d : D} {v : V} (l : LocRel k σ L H g) (r : Rep k H g d v) : LocRel k (σ.set i (some v)) (L.set i (.v d)) H g where
  len := by rw [List.length_set, List.length_set, l.len]
  val := fun j e h => by
    by_cases hj : i = j
    · subst hj
      by_cases hl : i < L.length
      · rw [List.getElem?_set_self hl] at h
        cases h
        exact ⟨v, by rw [List.getElem?_set_self (by rw [l.len]; exact hl)], r⟩
      · rw [List.getElem?_eq_none (by rw [List.length_set]; omega)] at h
        cases h
    · rw [List.getElem?_set_ne hj] at h
      obtain ⟨u, h1, h2⟩ := l.val j e h
      exact ⟨u, by rw [List.getElem?_set_ne hj]; exact h1, h2⟩
  own := fun j o h => by
    by_cases hj : i = j
    · subst hj
      by_cases hl : i < L.length
      · rw [List.getElem?_set_self hl] at h
        cases h
      · rw [List.getElem?_eq_none (by rw [List.length_set]; omega)] at h
        cases h
    · rw [List.getElem?_set_ne hj] at h
      obtain ⟨u, h1, h2⟩ := l.own j o h
      exact ⟨u, by rw [List.getElem?_set_ne hj]; exact h1, h2⟩
  sep := fun a b o u p ha hb pa pb => by
    have key : ∀ {a : Nat} {o : O}, (L.set i (.v d))[a]? = some (.o o) → i ≠ a := fun {a o} h z => by
      subst z
      by_cases hl : i < L.length
      · rw [List.getElem?_set_self hl] at h; cases h
      · rw [List.getElem?_eq_none (by rw [List.length_set]; omega)] at h; cases h
    have ia := key ha
    have ib := key hb
    rw [List.getElem?_set_ne ia] at ha pa
    rw [List.getElem?_set_ne ib] at hb pb
    exact l.sep a b o u p ha hb pa pb
  exc := l.exc.set nofun
theorem LocRel.unset {k : Kx} {σ : L2.St} {L : Ls} {H : Hp} {g : G} {i : Nat} (l : LocRel k σ L H g) : LocRel k (σ.set i none) (L.set i .un) H g where
  len := by rw [List.length_set, List.length_set, l.len]
  val := fun j e h => by
    by_cases hj : i = j
    · subst hj
      by_cases hl : i < L.length
      · rw [List.getElem?_set_self hl] at h
        cases h
      · rw [List.getElem?_eq_none (by rw [List.length_set]; omega)] at h
        cases h
    · rw [List.getElem?_set_ne hj] at h
      obtain ⟨u, h1, h2⟩ := l.val j e h
      exact ⟨u, by rw [List.getElem?_set_ne hj]; exact h1, h2⟩
  own := fun j o h => by
    by_cases hj : i = j
    · subst hj
      by_cases hl : i < L.length
      · rw [List.getElem?_set_self hl] at h
        cases h
      · rw [List.getElem?_eq_none (by rw [List.length_set]; omega)] at h
        cases h
    · rw [List.getElem?_set_ne hj] at h
      obtain ⟨u, h1, h2⟩ := l.own j o h
      exact ⟨u, by rw [List.getElem?_set_ne hj]; exact h1, h2⟩
  sep := fun a b o u p ha hb pa pb => by
    have key : ∀ {a : Nat} {o : O}, (L.set i .un)[a]? = some (.o o) → i ≠ a := fun {a o} h z => by
      subst z
      by_cases hl : i < L.length
      · rw [List.getElem?_set_self hl] at h; cases h
      · rw [List.getElem?_eq_none (by rw [List.length_set]; omega)] at h; cases h
    have ia := key ha
    have ib := key hb
    rw [List.getElem?_set_ne ia] at ha pa
    rw [List.getElem?_set_ne ib] at hb pb
    exact l.sep a b o u p ha hb pa pb
  exc := l.exc.set nofun
def wipeL (L : Ls) : List Nat → Ls
  | [] => L
  | v :: vs => (wipeL L vs).set v .un
theorem LocRel.wipe {k : Kx} {σ : L2.St} {L : Ls} {H : Hp} {g : G} (l : LocRel k σ L H g) : ∀ vs, LocRel k (L2.wipe σ vs) (wipeL L vs) H g
  | [] => l
  | _ :: vs => (LocRel.wipe l vs).unset
def tGt (k : Kx) (t : Tg) : TG := fun v σ H Q => ∃ d L S g L', Rep k H g d v ∧ LocRel k σ L H g ∧ WF k H g S ∧ tgA t d L = some L' ∧ ∀ σ', LocRel k σ' L' H g → Frm t.slots σ σ' → Q σ' H
def tGs (k : Kx) (ts : List Tg) : TGs := fun vs σ H Q => ∃ ds L S g L', RepL k H g ds vs ∧ LocRel k σ L H g ∧ WF k H g S ∧ tgAs ts ds L = some L' ∧ ∀ σ', LocRel k σ' L' H g → Frm (Tg.slotsL ts) σ σ' → Q σ' H
theorem PG.imp {X : Cx} {tg : Expr} {t t' : TG} (h : PG X tg t) (i : ∀ v σ H Q, t' v σ H Q → t v σ H Q) : PG X tg t' := ⟨fun pins s σ H v u Q I r q => h.run pins s σ H v u Q I r (i v σ H Q q)⟩
theorem PGs.imp {X : Cx} {tg : List Expr} {t t' : TGs} (h : PGs X tg t) (i : ∀ v σ H Q, t' v σ H Q → t v σ H Q) : PGs X tg t' := ⟨fun pins s σ H v u Q I r q => h.run pins s σ H v u Q I r (i v σ H Q q)⟩
theorem PG.or {X : Cx} {tg : Expr} {t t' : TG} (h : PG X tg t) (h' : PG X tg t') : PG X tg (fun v σ H Q => t v σ H Q ∨ t' v σ H Q) := ⟨fun pins s σ H v u Q I r q => q.elim (h.run pins s σ H v u Q I r) (h'.run pins s σ H v u Q I r)⟩
theorem as_each {X : Cx} : ∀ {es : List Expr}, es.all noStar = true → (assignEach es X.env).map (·.2) = es.map (fun e => assign e X.env) ∧ (assignEach es X.env).length = es.length ∧ (assignEach es X.env).findIdx? (·.1) = none
  | [], _ => ⟨rfl, rfl, rfl⟩
  | e :: es, h => by
    rw [List.all_cons, Bool.and_eq_true] at h
    obtain ⟨h1, h2, h3⟩ := as_each (X := X) h.2
    have e1 : assignEach (e :: es) X.env = (false, assign e X.env) :: assignEach es X.env := by
      cases e <;> first | rfl | (exact absurd h.1 Bool.false_ne_true)
    rw [e1]
    refine ⟨by rw [List.map_cons, h1] <;> rfl, by rw [List.length_cons, h2] <;> rfl, ?_⟩
    rw [List.findIdx?_cons]
    simp only [Bool.false_eq_true, if_false, h3]
    rfl
section
variable {X : Cx} {pos : Pos} {i kk : Nat} {x : Str} {e : Expr} {es : List Expr} {t : Tg} {ts : List Tg}
theorem sg_name (h : PG X (.Name x pos) (gName i)) : PG X (.Name x pos) (tGt (kx X) (.nm i)) := PG.imp h fun v σ H Q ⟨d, L, S, g, L', r, l, w, e, q⟩ => by
  cases e
  exact q _ (l.set r) ⟨List.length_set .., fun j hj => List.getElem?_set_ne (fun z => hj (by simp [Tg.slots, z]))⟩
theorem sgs_nil : PGs X [] (tGs (kx X) []) := PGs.imp pgs_nil fun vs σ H Q ⟨ds, L, S, g, L', r, l, w, e, q⟩ => by
  cases ds with
  | nil => cases e; exact ⟨r, q σ l ⟨rfl, fun _ _ => rfl⟩⟩
  | cons d ds => cases e
theorem sgs_cons (h1 : PG X e (tGt (kx X) t)) (h2 : PGs X es (tGs (kx X) ts)) (hs : (e :: es).all noStar = true) : PGs X (e :: es) (tGs (kx X) (t :: ts)) := by
  have a := as_each (X := X) hs
  have hs' : noStar e = true ∧ es.all noStar = true := by rwa [List.all_cons, Bool.and_eq_true] at hs
  have b := as_each (X := X) hs'.2
  refine PGs.imp (pgs_cons h1 h2 (by rw [a.1, b.1] <;> rfl)) fun vs σ H Q ⟨ds, L, S, g, L', r, l, w, e, q⟩ => ?_
  cases ds with
  | nil => cases e
  | cons d ds =>
    obtain ⟨v, u, rfl, r1, r2⟩ := r
    simp only [tgAs] at e
    split at e
    · rename_i L1 e1
      exact ⟨v, u, rfl, d, L, S, g, L1, r1, l, w, e1, fun σ' l' f => ⟨ds, L1, S, g, L', r2, l', w, e, fun σ'' l'' f' => q σ'' l'' (f.trans f')⟩⟩
    · cases e
theorem sg_tup (hc : X.calm = true) (h : PGs X es (tGs (kx X) ts)) (hs : es.all noStar = true) (hl : es.length = ts.length) : PG X (.Tuple es kk pos) (tGt (kx X) (.tup ts)) := by
  have a := as_each (X := X) hs
  refine PG.imp (Rf.PG.or (pg_tup (n := ts.length) hc h (a.2.1.trans hl) a.2.2) (pg_lst (n := ts.length) hc h (a.2.1.trans hl) a.2.2)) fun v σ H Q ⟨d, L, S, g, L', r, l, w, e, q⟩ => ?_
  have len : ∀ {ts : List Tg} {ds : List D} {L L' : Ls}, tgAs ts ds L = some L' → ds.length = ts.length := by
    intro ts
    induction ts with
    | nil => intro ds L L' h; cases ds with
      | nil => rfl
      | cons d ds => cases h
    | cons t ts ih => intro ds L L' h; cases ds with
      | nil => cases h
      | cons d ds =>
        simp only [tgAs] at h
        split at h
        · rw [List.length_cons, List.length_cons, ih h]
        · cases h
  cases d with
  | tup ds =>
    obtain ⟨p, vs, rfl, hp, rr⟩ := r
    have e' : tgAs ts ds L = some L' := e
    exact .inl ⟨p, vs, rfl, hp.sq, by rw [rr.length, len e'], ds, L, S, g, L', rr, l, w, e', q⟩
  | lst ds =>
    obtain ⟨p, vs, rfl, _, hp, rr⟩ := r
    have e' : tgAs ts ds L = some L' := e
    exact .inr ⟨p, vs, rfl, SqL.of hp, by rw [rr.length, len e'], ds, L, S, g, L', rr, l, w, e', q⟩
  | _ => cases e
end
@[reducible] def R.nox {α : Type} (r : R α) : R α := match r with
  | .ok a S => .ok a S
  | _ => .no
open Classical in
/-- go on only if the store's list is as it was -/
noncomputable def ckd {α : Type} (S : Sto) (all : List D) (dep : Dep) (r : R α) : R α := match dep with
  | none => r
  | some l => if DepC S l then r else .no
noncomputable def lcLoop (dep : Dep) (all : List D) (t : Tg) (tt : Ls → Sto → R Bool) (te : EM) (Lw : Ls) : List D → Sto → List D → R (List D)
  | [], S, acc => ckd S all dep (.ok acc S)
  | d :: ds, S, acc => ckd S all dep (match tgA t d Lw with
    | none => .no
    | some L1 => (tt L1 S).nox.bind fun b S1 => if b = true then (te L1 S1).nox.bind fun y S2 => if acc.length < sizeLine then lcLoop dep all t tt te Lw ds S2 (acc ++ [y]) else .no
      else lcLoop dep all t tt te Lw ds S1 acc)
noncomputable def fLc (mi : Ls → Sto → R Src) (own : List Nat) (t : Tg) (tt : Ls → Sto → R Bool) (te : EM) : Ls → Sto → R (List D) := fun L S =>
  (mi L S).bind fun src S1 => lcLoop src.2 src.1 t tt te (wipeL L own) src.1 S1 []
def tYs : Ls → Sto → R Bool := fun _ S => .ok true S
theorem ckd_ok {α β : Type} {k : Kx} {P : Hp → G → α → β → Prop} {H : Hp} {g : G} {W : Value → Option Addr → Hp → Prop} {S : Sto} {all : List D} {dep : Dep} {r : R α} {Q : β → Hp → Prop}
    (h : Post k P H g W (ckd S all dep r) Q) : DepOk S all dep ∧ Post k P H g W r Q := by
  cases dep with
  | none => exact ⟨trivial, h⟩
  | some n =>
    unfold ckd at h
    dsimp only at h
    by_cases z : DepC S n
    · rw [if_pos z] at h; exact ⟨z, h⟩
    · rw [if_neg z] at h; exact h.elim
section
variable {α β α' β' : Type} {k : Kx} {P : Hp → G → α → β → Prop} {P' : Hp → G → α' → β' → Prop} {B H H' : Hp} {gB g g' : G} {W W' : Value → Option Addr → Hp → Prop} {r : R α} {f : α → Sto → R α'} {Q : β → Hp → Prop} {Q' : β' → Hp → Prop}
theorem Post.bindN (h : Post k P' B gB W (r.nox.bind f) Q') (hk : ∀ a S b H' g', Ext H g H' g' → WF k H' g' S → P H' g' a b → Post k P' B gB W (f a S) Q' → Q b H') : Post k P H g W' r Q := by
  cases r with
  | ok a S => exact fun b H2 g2 e w p => hk a S b H2 g2 e w p h
  | ex x S => exact h.elim
  | no => exact h.elim
end
section
variable {k : Kx} {H B : Hp} {g gB : G} {S : Sto} {a : Addr} {ds es : List D} {us vs : List V}
theorem own_pext (h : OwnAt k H g a (.lst ds)) : PExt H g (upd H a (.lst vs)) g := by
  obtain ⟨⟨us, e, r⟩, nf, nr⟩ := h
  refine ⟨fun _ f => f, fun b o f q => ?_, fun b xs q => ?_, fun b o u q => ?_, Nat.le_refl _, fun _ _ => rfl⟩
  · rw [upd_ne (fun z => nf (by rw [← z]; exact f))]; exact q
  · rw [upd_ne (fun z => by rw [z, e] at q; cases q)]; exact q
  · rw [upd_ne (fun z => by rw [z, e] at q; cases q)]; exact q
theorem own_wf (h : OwnAt k H g a (.lst ds)) (w : WF k H g S) : WF k (upd H a (.lst vs)) g S where
  len := w.len
  ob := fun i o e => (w.ob i o e).mono (own_pext h) fun u q => by
    rw [upd_ne (fun z => h.2.2 i (by rw [← w.len]; exact (List.getElem?_eq_some_iff.mp e).1) z)]; exact q
  inj := w.inj
  nF := w.nF
  tF := fun b f => by
    obtain ⟨o, q⟩ := w.tF b f
    exact ⟨o, by rw [upd_ne (fun z => h.2.1 (by rw [← z]; exact f))]; exact q⟩
theorem own_own (h : OwnAt k H g a (.lst ds)) (r : RepL k H g es vs) : OwnAt k (upd H a (.lst vs)) g a (.lst es) := ⟨⟨vs, upd_same, r.mono (own_pext h) _ _⟩, h.2⟩
theorem own_ext (h : OwnAt k H g a (.lst ds)) (e : Ext B gB H g) (hB : B a = none) : Ext B gB (upd H a (.lst vs)) g where
  toPExt := ⟨e.F, fun b o f q => by rw [upd_ne (ne_of_none q hB)]; exact e.kF b o f q, fun b xs q => by rw [upd_ne (ne_of_none q hB)]; exact e.kT b xs q, fun b o u q => by rw [upd_ne (ne_of_none q hB)]; exact e.kZ b o u q, e.n, e.ρ⟩
  keep := fun b o q n => by rw [upd_ne (ne_of_none q hB)]; exact e.keep b o q n
  newF := e.newF
  newρ := e.newρ
  tr := fun b o q => by
    obtain ⟨u, z⟩ := e.tr b o q
    exact ⟨u, by rw [upd_ne (ne_of_none q hB)]; exact z⟩
end
theorem wipe_in {σ : L2.St} : ∀ {vs : List Nat} {j : Nat}, j ∈ vs → (wipe σ vs)[j]? = if j < σ.length then some none else none
  | v :: vs, j, h => by
    unfold wipe
    by_cases hj : v = j
    · subst hj
      by_cases hl : v < σ.length
      · rw [List.getElem?_set_self (by rw [wipe_length]; exact hl), if_pos hl]
      · rw [List.getElem?_eq_none (by rw [List.length_set, wipe_length]; omega), if_neg hl]
    · rw [List.getElem?_set_ne hj]
      rcases List.mem_cons.mp h with z | z
      · exact absurd z.symm hj
      · exact wipe_in z
theorem wipe_out' {σ : L2.St} : ∀ {vs : List Nat} {j : Nat}, j ∉ vs → (wipe σ vs)[j]? = σ[j]?
  | [], _, _ => rfl
  | v :: vs, j, h => by
    unfold wipe
    rw [List.getElem?_set_ne (fun z => h (by simp [z]))]
    exact wipe_out' fun z => h (List.mem_cons_of_mem _ z)
theorem wipe_frm {σ σ2 : L2.St} {vs ss : List Nat} (f : Frm ss (wipe σ vs) σ2) (hs : ∀ i ∈ ss, i ∈ vs) : wipe σ2 vs = wipe σ vs := by
  apply List.ext_getElem?
  intro j
  by_cases hj : j ∈ vs
  · rw [wipe_in hj, wipe_in hj, f.1, wipe_length]
  · rw [wipe_out' hj, f.2 j fun z => hj (hs j z)]
abbrev WN : WX := fun _ _ _ _ => False
theorem PTs.imp {X : Cx} {ifs : List Expr} {t t' : TT} (h : PTs X ifs t) (i : ∀ σ H Q, t' σ H Q → t σ H Q) : PTs X ifs t' := ⟨fun pins s σ H Q I q => h.run pins s σ H Q I (i σ H Q q)⟩
section
variable {X : Cx} {W : WX} {elt tg iter c : Expr} {ifs : List Expr} {scope : Scope} {own : List (Str × Nat)} {pos : Pos} {mi : Ls → Sto → R Src} {t : Tg} {tt : Ls → Sto → R Bool} {te : EM}
theorem sts_nil : PTs X [] (tT (kx X) W tYs) := PTs.imp pts_nil fun σ H Q ⟨L, S, g, l, w, p⟩ => Post.ret p w rfl
/-- the readings: from ours to the layer's -/
theorem lc_read {vs : List Nat} (hs : ∀ i ∈ t.slots, i ∈ vs) {k : Kx} {σ : L2.St} {H : Hp} {Q : VK} (h : tF k W (fLc mi vs t tt te) σ H Q) :
    tLc (tI k Ext W mi) (tGt k t) (tT k WN tt) (tE k WN te) vs σ H Q := by
  obtain ⟨L, S, g, l, w, p⟩ := h
  refine ⟨L, S, g, l, w, Post.bind p fun src S1 J H1 g1 e1 w1 y p1 => fun D hD => ?_⟩
  obtain ⟨all, dep⟩ := src
  have hD0 : H D = none := fresh_of e1 hD
  have l1 := (l.ext e1).wipe vs
  refine ⟨fun i m Hc => ∃ Sc gc acc, m = all.length - i ∧ i ≤ all.length ∧ Ext H1 g1 Hc gc ∧ WF k Hc gc Sc ∧ OwnAt k Hc gc D (.lst acc) ∧
    Post k (FRep k H) H1 g1 (fun c d => W c d σ) (lcLoop dep all t tt te (wipeL L vs) (all.drop i) Sc acc) Q,
    ⟨all.length, S1, g1, [], by omega, Nat.zero_le _, Ext.new hD, w1.new hD, own_new w1 rfl hD, by rw [List.drop_zero]; exact p1⟩, ?_⟩
  rintro i m Hc ⟨Sc, gc, acc, rfl, hi, ec, wc, oc, pc⟩
  by_cases hlt : i < all.length
  · rw [List.drop_eq_getElem_cons hlt] at pc
    obtain ⟨dok, pc⟩ := ckd_ok pc
    obtain ⟨go, yl⟩ := (y Hc gc Sc i ec wc dok).2 all[i] (List.getElem?_eq_getElem hlt)
    refine .inr ⟨go, fun H' => ∃ m', m' < all.length - i ∧ ∃ Sc gc acc, m' = all.length - (i + 1) ∧ i + 1 ≤ all.length ∧ Ext H1 g1 H' gc ∧ WF k H' gc Sc ∧ OwnAt k H' gc D (.lst acc) ∧
      Post k (FRep k H) H1 g1 (fun c d => W c d σ) (lcLoop dep all t tt te (wipeL L vs) (all.drop (i + 1)) Sc acc) Q, fun H' h => h, fun x H3 hy => ?_⟩
    obtain ⟨e3, w3, r3⟩ := yl x H3 hy
    have ec3 := ec.trans e3
    cases q : tgA t all[i] (wipeL L vs) with
    | none => rw [q] at pc; exact pc.elim
    | some L1 =>
      rw [q] at pc
      refine ⟨all[i], wipeL L vs, Sc, gc, L1, r3, l1.ext ec3, w3, q, fun σ2 l2 f2 => ⟨wipe_frm f2 hs, L1, Sc, gc, l2, w3, Post.bindN pc fun b S4 b' H4 g4 e4 w4 rb p4 => ?_⟩⟩
      cases rb
      have ec4 := ec3.trans e4
      have o4 := (oc.ext e3).ext e4
      by_cases hb : b = true
      · rw [if_pos hb] at p4 ⊢
        refine ⟨L1, S4, g4, l2.ext e4, w4, Post.bindN p4 fun d S5 v H5 g5 e5 w5 r5 p5 => ?_⟩
        have o5 := o4.ext e5
        have ec5 := ec4.trans e5
        obtain ⟨accV, hacc, racc⟩ := id o5.1
        by_cases hz : acc.length < sizeLine
        · rw [if_pos hz] at p5
          have racc' := racc.append (RepL.cons r5 .nil)
          exact ⟨accV, hacc, by rw [racc.length]; exact hz, _, by omega, S5, g5, acc ++ [d], rfl, hlt, own_ext o5 ec5 hD, own_wf o5 w5, own_own o5 racc', p5⟩
        · rw [if_neg hz] at p5
          exact p5.elim
      · rw [if_neg hb] at p4 ⊢
        exact ⟨_, by omega, S4, g4, acc, rfl, hlt, ec4, w4, o4, p4⟩
  · have ei : all.length = i := by omega
    rw [List.drop_eq_nil_of_le (by omega)] at pc
    obtain ⟨dok, pc⟩ := ckd_ok pc
    exact .inl ⟨(y Hc gc Sc i ec wc dok).1 ei, pc _ Hc gc ec wc ⟨D, rfl, hD0, oc⟩⟩
theorem no_fold {e : Expr} {env : Env} (h : notMark e = true) (x : Value) : foldedSetIterable e env x = pure x := by
  cases e <;> first | rfl | cases h
theorem blk_e {X : Cx} {W : WX} {e : Expr} {m : EM} {s : Shared} {H : Hp} {scope : Scope} {cenv : Env} {fp : List Addr} (hc : X.calm = true) (h : SE (X.blk s H scope cenv fp) W e m) : PE (X.blk s H scope cenv fp) e (tE (kx X) W m) := by
  have e1 : kx (X.blk s H scope cenv fp) = kx X := by rw [kx_calm hc, kx_calm (X := X.blk s H scope cenv fp) hc]
  rw [← e1]
  exact h
theorem sf_lc (hc : X.calm = true) (hN : X.N.Nodup) (hi : PI X tg iter (tI (kx X) Ext W mi)) (ok : BlkOk X.N X.env.scope scope own)
    (hg : ∀ (s : Shared) (H : Hp) (C : Addr) (cl : List (Str × Addr)) (fp : List Addr), PG (X.blk s H scope (compEnvC scope cl C X.env) fp) tg (tGt (kx X) t))
    (ht : ∀ (s : Shared) (H : Hp) (C : Addr) (cl : List (Str × Addr)) (fp : List Addr), PTs (X.blk s H scope (compEnvC scope cl C X.env) fp) ifs (tT (kx X) WN tt))
    (he : ∀ (s : Shared) (H : Hp) (C : Addr) (cl : List (Str × Addr)) (fp : List Addr), SE (X.blk s H scope (compEnvC scope cl C X.env) fp) WN elt te)
    (hs : ∀ i ∈ t.slots, i ∈ own.map (·.2)) (hm : notMark iter = true) : SF X W (.ListComp elt [⟨tg, iter, ifs, 0⟩] scope pos) (fLc mi (own.map (·.2)) t tt te) :=
  PE.imp (pe_lc hc hN hi ok hg ht (fun s H C cl fp => blk_e hc (he s H C cl fp)) (no_fold hm)) fun σ H Q q => lc_read hs q
end
end Rf
set_option Elab.async false
set_option linter.all false
set_option maxRecDepth 100000
namespace Rf
open PySem L2 TL
inductive Fl where
  | nx | rt (d : D) | bk | ct
inductive RS where
  | ok (f : Fl) (L : Ls) (S : Sto) | ex (x : Exn) (L : Ls) (S : Sto) | no
abbrev SM := Ls → Sto → RS
@[reducible] def R.st {α : Type} (r : R α) (L : Ls) (f : α → Sto → RS) : RS := match r with
  | .ok a S => f a S
  | .ex x S => .ex x L S
  | .no => .no
@[reducible] def RS.seq (r : RS) (f : Ls → Sto → RS) : RS := match r with
  | .ok .nx L S => f L S
  | r => r
/-- the state of a frame whose call began at B -/
structure Fr (k : Kx) (B : Hp) (gB : G) (σ : L2.St) (L : Ls) (H : Hp) (g : G) (S : Sto) : Prop where
  loc : LocRel k σ L H g
  wf : WF k H g S
  base : Ext B gB H g
  new : ∀ (i : Nat) (o : O) (a : Addr), L[i]? = some (.o o) → σ[i]? = some (some (.ref a)) → B a = none
def EndsAt (k : Kx) (D : Ends) (f : Fl) (σ : L2.St) (H : Hp) (g : G) : Prop := match f with
  | .nx => D.nx σ H
  | .bk => D.bk σ H
  | .ct => D.ct σ H
  | .rt d => ∀ v, Rep k H g d v → D.rt v H
def SPost (k : Kx) (B : Hp) (gB : G) (W : WX) (H : Hp) (g : G) (r : RS) (D : Ends) : Prop := match r with
  | .ok f L S => ∀ σ' H' g', Fr k B gB σ' L H' g' S → PExt H g H' g' → EndsAt k D f σ' H' g'
  | .ex x L S => ∀ c d σ' H' g', Fr k B gB σ' L H' g' S → PExt H g H' g' → XRep k H' g' x c d → W c d σ' H'
  | .no => False
def tS (k : Kx) (W : WX) (m : SM) : TS := fun D σ H => ∃ L S g B gB, Fr k B gB σ L H g S ∧ SPost k B gB W H g (m L S) D
theorem PS.imp {X : Cx} {st : Stmt} {t t' : TS} (h : PS X st t) (i : ∀ D σ H, t' D σ H → t D σ H) : PS X st t' := ⟨fun pins s σ H D I q => h.run pins s σ H D I (i D σ H q)⟩
theorem PSs.imp {X : Cx} {st : List Stmt} {t t' : TS} (h : PSs X st t) (i : ∀ D σ H, t' D σ H → t D σ H) : PSs X st t' := ⟨fun pins s σ H D I q => h.run pins s σ H D I (i D σ H q)⟩
abbrev SS (X : Cx) (W : WX) (st : Stmt) (m : SM) : Prop := PS X st (tS (kx X) W m)
abbrev SB (X : Cx) (W : WX) (st : List Stmt) (m : SM) : Prop := PSs X st (tS (kx X) W m)
section
variable {α β : Type} {k : Kx} {B : Hp} {gB : G} {W : WX} {σ : L2.St} {L : Ls} {H H' H1 : Hp} {g g' g1 : G} {S S1 : Sto} {r : RS} {E : Ends}
theorem SPost.from (h : SPost k B gB W H g r E) (e : PExt H g H' g') : SPost k B gB W H' g' r E := by
  cases r with
  | ok f L S => exact fun σ2 H2 g2 fr e2 => h σ2 H2 g2 fr (e.trans e2)
  | ex x L S => exact fun c d σ2 H2 g2 fr e2 => h c d σ2 H2 g2 fr (e.trans e2)
  | no => exact h
theorem Fr.ext (f : Fr k B gB σ L H g S) (e : Ext H g H1 g1) (w : WF k H1 g1 S1) : Fr k B gB σ L H1 g1 S1 := ⟨f.loc.ext e, w, f.base.trans e, f.new⟩
theorem st_e {P : Hp → G → α → β → Prop} {x : R α} {f : α → Sto → RS} {Q : β → Hp → Prop} (fr : Fr k B gB σ L H g S) (p : SPost k B gB W H g (R.st x L f) E)
    (hk : ∀ a S1 b H1 g1, Fr k B gB σ L H1 g1 S1 → Ext H g H1 g1 → P H1 g1 a b → SPost k B gB W H1 g1 (f a S1) E → Q b H1) : Post k P H g (fun c d => W c d σ) x Q := by
  cases x with
  | ok a S1 => exact fun b H1 g1 e w q => hk a S1 b H1 g1 (fr.ext e w) e q (SPost.from p e.toPExt)
  | ex x S1 => exact fun c d H1 g1 e w q => p c d σ H1 g1 (fr.ext e w) e.toPExt q
  | no => exact p
theorem SPost.nx (h : SPost k B gB W H g (.ok .nx L S) E) (fr : Fr k B gB σ L H g S) : E.nx σ H := h σ H g fr (PExt.refl H g)
theorem Fr.set {i : Nat} {d : D} {v : V} (f : Fr k B gB σ L H g S) (r : Rep k H g d v) : Fr k B gB (σ.set i (some v)) (L.set i (.v d)) H g S where
  loc := f.loc.set r
  wf := f.wf
  base := f.base
  new := fun j o a h h' => by
    by_cases hj : i = j
    · subst hj
      by_cases hl : i < L.length
      · rw [List.getElem?_set_self hl] at h; cases h
      · rw [List.getElem?_eq_none (by rw [List.length_set]; omega)] at h; cases h
    · rw [List.getElem?_set_ne hj] at h h'
      exact f.new j o a h h'
/-- an own object is put into a slot -/
theorem Fr.put {i : Nat} {o : O} {a : Addr} (f : Fr k B gB σ L H g S) (h : OwnAt k H g a o) (hB : B a = none) (hs : ∀ j u, j ≠ i → L[j]? = some (.o u) → σ[j]? ≠ some (some (.ref a))) : Fr k B gB (σ.set i (some (.ref a))) (L.set i (.o o)) H g S where
  loc := {
    len := by rw [List.length_set, List.length_set, f.loc.len]
    val := fun j e h => by
      by_cases hj : i = j
      · subst hj
        by_cases hl : i < L.length
        · rw [List.getElem?_set_self hl] at h; cases h
        · rw [List.getElem?_eq_none (by rw [List.length_set]; omega)] at h; cases h
      · rw [List.getElem?_set_ne hj] at h ⊢
        exact f.loc.val j e h
    own := fun j u h => by
      by_cases hj : i = j
      · subst hj
        by_cases hl : i < L.length
        · rw [List.getElem?_set_self hl] at h
          cases h
          exact ⟨a, by rw [List.getElem?_set_self (by rw [f.loc.len]; exact hl)], by assumption⟩
        · rw [List.getElem?_eq_none (by rw [List.length_set]; omega)] at h; cases h
      · rw [List.getElem?_set_ne hj] at h ⊢
        exact f.loc.own j u h
    sep := fun j l u w b hj hl pj pl => by
      by_cases ej : i = j
      · by_cases el : i = l
        · omega
        · subst ej
          by_cases hi : i < L.length
          · rw [List.getElem?_set_ne el] at hl pl
            rw [List.getElem?_set_self (by rw [f.loc.len]; exact hi)] at pj
            cases pj
            exact absurd pl (hs l w (fun z => el z.symm) hl)
          · rw [List.getElem?_eq_none (by rw [List.length_set]; omega)] at hj; cases hj
      · by_cases el : i = l
        · subst el
          by_cases hi : i < L.length
          · rw [List.getElem?_set_ne ej] at hj pj
            rw [List.getElem?_set_self (by rw [f.loc.len]; exact hi)] at pl
            cases pl
            exact absurd pj (hs j u (fun z => ej z.symm) hj)
          · rw [List.getElem?_eq_none (by rw [List.length_set]; omega)] at hl; cases hl
        · rw [List.getElem?_set_ne ej] at hj pj
          rw [List.getElem?_set_ne el] at hl pl
          exact f.loc.sep j l u w b hj hl pj pl
    exc := f.loc.exc.set nofun }
  wf := f.wf
  base := f.base
  new := fun j u b h h' => by
    by_cases hj : i = j
    · subst hj
      by_cases hl : i < L.length
      · rw [List.getElem?_set_self (by rw [f.loc.len]; exact hl)] at h'
        cases h'; exact hB
      · rw [List.getElem?_eq_none (by rw [List.length_set]; omega)] at h; cases h
    · rw [List.getElem?_set_ne hj] at h h'
      exact f.new j u b h h'
theorem Fr.fresh {H0 : Hp} {g0 : G} {S0 : Sto} {i : Nat} {ds : List D} {v : V} (f0 : Fr k B gB σ L H0 g0 S0) (f : Fr k B gB σ L H g S) (h : FRep k H0 H g ds v) : Fr k B gB (σ.set i (some v)) (L.set i (.o (.lst ds))) H g S := by
  obtain ⟨a, rfl, hn, oa⟩ := h
  refine f.put oa (fresh_of f0.base hn) fun j u _ hj hp => ?_
  obtain ⟨b, hb, ob⟩ := f0.loc.own j u hj
  rw [hp] at hb
  cases hb
  obtain ⟨w, q⟩ := ob.1.tr
  rw [hn] at q; cases q
/-- an object of the store is changed -/
theorem Fr.obj {n : Nat} {ds es : List D} {vs : List V} (f : Fr k B gB σ L H g S) (hn : S[n]? = some (.lst ds)) (r : RepL k H g es vs) :
    Fr k B gB σ L (upd H (g.ρ n) (.lst vs)) g (S.set n (.lst es)) ∧ PExt H g (upd H (g.ρ n) (.lst vs)) g := by
  have hl : n < S.length := (List.getElem?_eq_some_iff.mp hn).1
  have hg : n < g.n := by rw [← f.wf.len]; exact hl
  obtain ⟨us, hu, _⟩ := f.wf.ob n _ hn
  have pe : PExt H g (upd H (g.ρ n) (.lst vs)) g := by
    refine ⟨fun _ f => f, fun b o q1 q => ?_, fun b xs q => ?_, fun b o u q => ?_, Nat.le_refl _, fun _ _ => rfl⟩
    · rw [upd_ne (fun z => f.wf.nF n hg (by rw [← z]; exact q1))]; exact q
    · rw [upd_ne (fun z => by rw [z, hu] at q; cases q)]; exact q
    · rw [upd_ne (fun z => by rw [z, hu] at q; cases q)]; exact q
  refine ⟨⟨⟨f.loc.len, fun j e h => ?_, fun j u h => ?_, f.loc.sep, f.loc.exc.mono pe⟩, ?_, ?_, f.new⟩, pe⟩
  · obtain ⟨v, q1, q2⟩ := f.loc.val j e h
    exact ⟨v, q1, q2.mono pe _ _⟩
  · obtain ⟨b, q1, q2⟩ := f.loc.own j u h
    exact ⟨b, q1, q2.1.mono pe fun o q => by rw [upd_ne (fun z => q2.2.2 n hg z.symm)]; exact q, q2.2⟩
  · refine ⟨by rw [List.length_set]; exact f.wf.len, fun i o h => ?_, f.wf.inj, f.wf.nF, fun a q => ?_⟩
    · by_cases hi : n = i
      · subst hi
        rw [List.getElem?_set_self hl] at h
        cases h
        exact ⟨vs, upd_same, r.mono pe _ _⟩
      · rw [List.getElem?_set_ne hi] at h
        have hi' : i < g.n := by rw [← f.wf.len]; exact (List.getElem?_eq_some_iff.mp h).1
        exact (f.wf.ob i o h).mono pe fun o q => by rw [upd_ne (fun z => hi (f.wf.inj i n hi' hg z).symm)]; exact q
    · obtain ⟨o, z⟩ := f.wf.tF a q
      exact ⟨o, by rw [upd_ne (fun y => f.wf.nF n hg (by rw [← y]; exact q))]; exact z⟩
  · have e := f.base
    have key : ∀ b o, B b = some o → (∀ i, i < gB.n → gB.ρ i ≠ b) → b ≠ g.ρ n := fun b o q hb z => by
      by_cases h : n < gB.n
      · exact hb n h (by rw [z, e.ρ n h])
      · have y := e.newρ n (Nat.le_of_not_lt h) hg
        rw [← z, q] at y; cases y
    refine ⟨⟨e.F, fun b o q1 q => ?_, fun b xs q => ?_, fun b o u q => ?_, e.n, e.ρ⟩, fun b o q hb => ?_, e.newF, e.newρ, fun b o q => ?_⟩
    · exact pe.kF b o (e.F b q1) (e.kF b o q1 q)
    · exact pe.kT b xs (e.kT b xs q)
    · exact pe.kZ b o u (e.kZ b o u q)
    · rw [upd_ne (key b o q hb)]; exact e.keep b o q hb
    · by_cases z : b = g.ρ n
      · subst z; exact ⟨_, upd_same⟩
      · obtain ⟨u, y⟩ := e.tr b o q
        exact ⟨u, by rw [upd_ne z]; exact y⟩
/-- an own list is never written again -/
theorem Fr.frz {i : Nat} {ds : List D} (f : Fr k B gB σ L H g S) (hi : L[i]? = some (.o (.lst ds))) : ∃ g', Fr k B gB σ (L.set i (.v (.lst ds))) H g' S ∧ PExt H g H g' := by
  obtain ⟨a, ha, oa⟩ := f.loc.own i _ hi
  have hl : i < L.length := (List.getElem?_eq_some_iff.mp hi).1
  have pe : PExt H g H (g.frz a) := PExt.frz
  have ow : ∀ {j : Nat} {u : O}, (L.set i (.v (.lst ds)))[j]? = some (.o u) → i ≠ j ∧ L[j]? = some (.o u) := fun {j u} h => by
    by_cases hj : i = j
    · subst hj
      rw [List.getElem?_set_self hl] at h; cases h
    · rw [List.getElem?_set_ne hj] at h; exact ⟨hj, h⟩
  refine ⟨g.frz a, ⟨⟨by rw [List.length_set, f.loc.len], fun j e h => ?_, fun j u h => ?_, fun j l u w b hj hl pj pl => f.loc.sep j l u w b (ow hj).2 (ow hl).2 pj pl, (f.loc.exc.mono pe).setL nofun⟩, f.wf.frzOwn oa, f.base.frzNew (f.new i _ a hi ha), fun j u b h h' => f.new j u b (ow h).2 h'⟩, pe⟩
  · by_cases hj : i = j
    · subst hj
      rw [List.getElem?_set_self hl] at h
      cases h
      exact ⟨_, ha, oa.frz⟩
    · rw [List.getElem?_set_ne hj] at h
      obtain ⟨v, q1, q2⟩ := f.loc.val j e h
      exact ⟨v, q1, q2.mono pe _ _⟩
  · obtain ⟨hj, h⟩ := ow h
    obtain ⟨b, q1, q2⟩ := f.loc.own j u h
    refine ⟨b, q1, q2.1.mono pe fun o q => q, fun z => ?_, q2.2.2⟩
    rcases z with z | z
    · subst z
      exact hj (f.loc.sep i j _ u b hi h ha q1)
    · exact q2.2.1 z
end
end Rf
set_option Elab.async false
set_option linter.all false
set_option maxRecDepth 100000
namespace Rf
open PySem L2 TL
def sNil : SM := fun L S => .ok .nx L S
def sSeq (a b : SM) : SM := fun L S => (a L S).seq b
def sBrk : SM := fun L S => .ok .bk L S
def sCnt : SM := fun L S => .ok .ct L S
def sRet (m : EM) : SM := fun L S => (m L S).st L fun d S1 => .ok (.rt d) L S1
def sRetN : SM := fun L S => .ok (.rt .non) L S
def sDrop (m : EM) : SM := fun L S => (m L S).st L fun _ S1 => .ok .nx L S1
def sSet (i : Nat) (m : EM) : SM := fun L S => (m L S).st L fun d S1 => .ok .nx (L.set i (.v d)) S1
def sOwn (i : Nat) (m : Ls → Sto → R (List D)) : SM := fun L S => (m L S).st L fun ds S1 => .ok .nx (L.set i (.o (.lst ds))) S1
def sFrz (i : Nat) (m : SM) : SM := fun L S => match L[i]? with
  | some (.o (.lst ds)) => m (L.set i (.v (.lst ds))) S
  | _ => m L S
def sTg (t : Tg) (m : EM) : SM := fun L S => (m L S).st L fun d S1 => match tgA t d L with
  | some L1 => .ok .nx L1 S1
  | none => .no
def sPar2 (i j : Nat) (m : Ls → Sto → R (List D)) : SM := fun L S => (m L S).st L fun ds S1 => match ds with
  | [d, e] => .ok .nx ((L.set i (.v d)).set j (.v e)) S1
  | _ => .no
def sPar3 (i j l : Nat) (m : Ls → Sto → R (List D)) : SM := fun L S => (m L S).st L fun ds S1 => match ds with
  | [d, e, f] => .ok .nx (((L.set i (.v d)).set j (.v e)).set l (.v f)) S1
  | _ => .no
def sIf (c : Ls → Sto → R Bool) (a b : SM) : SM := fun L S => (c L S).st L fun t S1 => if t = true then a L S1 else b L S1
/-- the own list at i, the store's object -/
def sApp (i : Nat) (m : EM) : SM := fun L S => match L[i]? with
  | some (.o (.lst ds)) => (m L S).st L fun d S1 => if ds.length < sizeLine then .ok .nx (L.set i (.o (.lst (ds ++ [d])))) S1 else .no
  | _ => .no
def sAppO (mo m : EM) : SM := fun L S => (mo L S).st L fun o S1 => match o with
  | .obj n => match S1[n]? with
    | some (.lst _) => (m L S1).st L fun d S2 => match S2[n]? with
      | some (.lst ds) => if ds.length < sizeLine then .ok .nx L (S2.set n (.lst (ds ++ [d]))) else .no
      | _ => .no
    | _ => .no
  | _ => .no
def sPut (i : Nat) (mi mv : EM) : SM := fun L S => (mv L S).st L fun d S1 => match L[i]? with
  | some (.o (.lst ds)) => (mi L S1).st L fun j S2 => match j with
    | .int k => match ixN ds.length k with
      | some jj => .ok .nx (L.set i (.o (.lst (ds.set jj d)))) S2
      | none => .no
    | _ => .no
  | _ => .no
def sPutO (mo mi mv : EM) : SM := fun L S => (mv L S).st L fun d S1 => (mo L S1).st L fun o S2 => match o with
  | .obj n => (mi L S2).st L fun j S3 => match j with
    | .int k => match S3[n]? with
      | some (.lst ds) => match ixN ds.length k with
        | some jj => .ok .nx L (S3.set n (.lst (ds.set jj d)))
        | none => .no
      | _ => .no
    | _ => .no
  | _ => .no
def sAug (i : Nat) (o : D → D → Option D) (m : EM) : SM := fun L S => match L[i]? with
  | some (.v x) => (m L S).st L fun y S1 => match o (deref S1 x) (deref S1 y) with
    | some z => .ok .nx (L.set i (.v z)) S1
    | none => .no
  | _ => .no
open Classical in
noncomputable def ckS (S : Sto) (all : List D) (dep : Dep) (r : RS) : RS := match dep with
  | none => r
  | some l => if DepC S l then r else .no
noncomputable def forL (dep : Dep) (all : List D) (t : Tg) (b : SM) : List D → SM
  | [], L, S => ckS S all dep (.ok .nx L S)
  | d :: ds, L, S => ckS S all dep (match tgA t d L with
    | none => .no
    | some L1 => match b L1 S with
      | .ok .nx L2 S2 => forL dep all t b ds L2 S2
      | .ok .ct L2 S2 => forL dep all t b ds L2 S2
      | .ok .bk L2 S2 => .ok .nx L2 S2
      | r => r)
noncomputable def sFor (mi : Ls → Sto → R Src) (t : Tg) (b : SM) : SM := fun L S => (mi L S).st L fun src S1 => forL src.2 src.1 t b src.1 L S1
theorem set_own {L : Ls} {i j : Nat} {d : D} {o : O} (h : (L.set i (.v d))[j]? = some (.o o)) : i ≠ j ∧ L[j]? = some (.o o) := by
  by_cases hj : i = j
  · subst hj
    by_cases hl : i < L.length
    · rw [List.getElem?_set_self hl] at h; cases h
    · rw [List.getElem?_eq_none (by rw [List.length_set]; omega)] at h; cases h
  · rw [List.getElem?_set_ne hj] at h; exact ⟨hj, h⟩
mutual
theorem tg_own : ∀ (t : Tg) (d : D) (L L1 : Ls) (j : Nat) (o : O), tgA t d L = some L1 → L1[j]? = some (.o o) → j ∉ t.slots ∧ L[j]? = some (.o o)
  | .nm i, d, L, L1, j, o, q, h => by
    cases q
    obtain ⟨h1, h2⟩ := set_own h
    exact ⟨by simp [Tg.slots, Ne.symm h1], h2⟩
  | .tup ts, .tup ds, L, L1, j, o, q, h => tgs_own ts ds L L1 j o q h
  | .tup ts, .lst ds, L, L1, j, o, q, h => tgs_own ts ds L L1 j o q h
  | .tup _, .non, _, _, _, _, q, _ => nomatch q
  | .tup _, .bl _, _, _, _, _, q, _ => nomatch q
  | .tup _, .int _, _, _, _, _, q, _ => nomatch q
  | .tup _, .str _, _, _, _, _, q, _ => nomatch q
  | .tup _, .obj _, _, _, _, _, q, _ => nomatch q
  | .tup _, .gl _, _, _, _, _, q, _ => nomatch q
  | .tup _, .ty _, _, _, _, _, q, _ => nomatch q
  | .tup _, .scr _, _, _, _, _, q, _ => nomatch q
theorem tgs_own : ∀ (ts : List Tg) (ds : List D) (L L1 : Ls) (j : Nat) (o : O), tgAs ts ds L = some L1 → L1[j]? = some (.o o) → j ∉ Tg.slotsL ts ∧ L[j]? = some (.o o)
  | [], [], L, L1, j, o, q, h => by cases q; exact ⟨by simp [Tg.slotsL], h⟩
  | [], _ :: _, _, _, _, _, q, _ => nomatch q
  | _ :: _, [], _, _, _, _, q, _ => nomatch q
  | t :: ts, d :: ds, L, L1, j, o, q, h => by
    simp only [tgAs] at q
    split at q
    · rename_i L2 e
      obtain ⟨h1, h2⟩ := tgs_own ts ds L2 L1 j o q h
      obtain ⟨h3, h4⟩ := tg_own t d L L2 j o e h2
      exact ⟨by simp only [Tg.slotsL, List.mem_append, not_or]; exact ⟨h3, h1⟩, h4⟩
    · cases q
end
theorem tg_fr {k : Kx} {B H : Hp} {gB g : G} {σ σ' : L2.St} {L L1 : Ls} {S : Sto} {t : Tg} {d : D} (f : Fr k B gB σ L H g S) (l : LocRel k σ' L1 H g) (q : tgA t d L = some L1) (fm : Frm t.slots σ σ') : Fr k B gB σ' L1 H g S :=
  ⟨l, f.wf, f.base, fun i o a h h' => by
    obtain ⟨h1, h2⟩ := tg_own t d L L1 i o q h
    rw [fm.2 i h1] at h'
    exact f.new i o a h2 h'⟩
section
variable {X : Cx} {W : WX} {st : Stmt} {sts rest : List Stmt} {e c : Expr} {pos pos' : Pos} {m ma mb : EM} {a b : SM}
theorem sb_nil : SB X W [] sNil := PSs.imp pss_nil fun D σ H ⟨L, S, g, B, gB, f, p⟩ => SPost.nx p f
theorem seq_read {D : Ends} {σ : L2.St} {H : Hp} {k : Kx} (h : tS k W (sSeq a b) D σ H) : tSeq (tS k W a) (tS k W b) D σ H := by
  obtain ⟨L, S, g, B, gB, f, p⟩ := h
  refine ⟨L, S, g, B, gB, f, ?_⟩
  have p0 : SPost k B gB W H g ((a L S).seq b) D := p
  cases q : a L S with
  | no => rw [q] at p0; exact p0
  | ex x L1 S1 => rw [q] at p0; exact p0
  | ok fl L1 S1 =>
    rw [q] at p0
    cases fl with
    | nx => exact fun σ' H' g' f' e => ⟨L1, S1, g', B, gB, f', SPost.from p0 e⟩
    | _ => exact p0
theorem sb_cons (h1 : SS X W st a) (h2 : SB X W rest b) : SB X W (st :: rest) (sSeq a b) := PSs.imp (pss_cons h1 h2) fun D σ H h => seq_read h
theorem ss_ret (h : SE X W e m) : SS X W (.Return (some e) pos) (sRet m) := PS.imp (ps_ret h) fun D σ H ⟨L, S, g, B, gB, f, p⟩ =>
  ⟨L, S, g, f.loc, f.wf, st_e f p fun d S1 v H1 g1 f1 e1 r p1 => p1 σ H1 g1 f1 (PExt.refl H1 g1) v r⟩
theorem no_swap (h : notComp e = true) {t : Option Expr} {l : Nat} {env : Env} : swapsWith e t l env = pure false := by
  cases e <;> first | rfl | cases h
theorem set_read {k : Kx} {i : Nat} {D : Ends} {σ : L2.St} {H : Hp} (h : tS k W (sSet i m) D σ H) : tAsg (tE k W m) (gName i) D σ H := by
  obtain ⟨L, S, g, B, gB, f, p⟩ := h
  exact ⟨L, S, g, f.loc, f.wf, st_e f p fun d S1 v H1 g1 f1 e1 r p1 => SPost.nx p1 (f1.set r)⟩
section
variable {i j l : Nat} {x y z : Str} {mf : Ls → Sto → R (List D)}
theorem ss_set (hN : X.N.Nodup) (hi : X.N[i]? = some x) (hx : Loc X.env.scope x) (hf : X.fn x = true) (h : SE X W e m) (hn : notComp e = true) : SS X W (.Assign [.Name x pos'] e pos) (sSet i m) :=
  PS.imp (ps_set hN hi hx h (no_swap hn) (.inl hf)) fun D σ H q => set_read q
theorem par_read2 {k : Kx} {i j : Nat} {ma : Ls → Sto → R (List D)} {D : Ends} {σ : L2.St} {H : Hp} (h : tS k W (sPar2 i j ma) D σ H) : tPar i j (tAE k W ma) D σ H := by
  obtain ⟨L, S, g, B, gB, f, p⟩ := h
  refine ⟨L, S, g, f.loc, f.wf, st_e f p fun ds S1 vs H1 g1 f1 e1 r p1 => ?_⟩
  match ds, r, p1 with
  | [d, e], ⟨v, vr, e1, r1, w, wr, e2, r2, r3⟩, p1 =>
    subst e1 e2 r3
    exact ⟨v, w, rfl, SPost.nx p1 ((f1.set r1).set r2)⟩
  | [], _, p1 => exact p1.elim
  | [_], _, p1 => exact p1.elim
  | _ :: _ :: _ :: _, _, p1 => exact p1.elim
theorem ss_if {tc : Ls → Sto → R Bool} {p q : List Stmt} (hc : ST X W c tc) (ha : SB X W p a) (hb : SB X W q b) : SS X W (.If c p q pos) (sIf tc a b) := PS.imp (ps_if hc ha hb) fun D σ H ⟨L, S, g, B, gB, f, p⟩ =>
  ⟨L, S, g, f.loc, f.wf, st_e (P := fun _ _ (b c : Bool) => c = b) f p fun t S1 t' H1 g1 f1 e1 r p1 => by
    cases (show t' = t from r)
    cases t with
    | true => exact ⟨L, S1, g1, B, gB, f1, p1⟩
    | false => exact ⟨L, S1, g1, B, gB, f1, p1⟩⟩
end
end
end Rf
set_option Elab.async false
set_option linter.all false
set_option maxRecDepth 100000
namespace Rf
open PySem L2 TL
theorem ckS_ok {k : Kx} {B : Hp} {gB : G} {W : WX} {H : Hp} {g : G} {S : Sto} {all : List D} {dep : Dep} {r : RS} {D : Ends} (h : SPost k B gB W H g (ckS S all dep r) D) : DepOk S all dep ∧ SPost k B gB W H g r D := by
  cases dep with
  | none => exact ⟨trivial, h⟩
  | some n =>
    unfold ckS at h
    dsimp only at h
    by_cases z : DepC S n
    · rw [if_pos z] at h; exact ⟨z, h⟩
    · rw [if_neg z] at h; exact h.elim
/-- a turn's end -/
theorem turn_end {k : Kx} {B : Hp} {gB : G} {W : WX} {H : Hp} {g : G} {r : RS} {D : Ends} {N : L2.St → Hp → Prop} {f : Ls → Sto → RS}
    (h : SPost k B gB W H g (match r with | .ok .nx L2 S2 => f L2 S2 | .ok .ct L2 S2 => f L2 S2 | .ok .bk L2 S2 => .ok .nx L2 S2 | r => r) D)
    (hN : ∀ σ' L' H' g' S', Fr k B gB σ' L' H' g' S' → PExt H g H' g' → SPost k B gB W H' g' (f L' S') D → N σ' H') : SPost k B gB W H g r { D with nx := N, ct := N, bk := D.nx } := by
  cases r with
  | no => exact h
  | ex x L S => exact h
  | ok fl L S =>
    cases fl with
    | nx => exact fun σ' H' g' fr e => hN σ' L H' g' S fr e (SPost.from h e)
    | ct => exact fun σ' H' g' fr e => hN σ' L H' g' S fr e (SPost.from h e)
    | bk => exact h
    | rt d => exact h
theorem for_read {k : Kx} {W : WX} {mi : Ls → Sto → R Src} {t : Tg} {b : SM} {D : Ends} {σ : L2.St} {H : Hp} (h : tS k W (sFor mi t b) D σ H) : tFor (tI k PExt W mi) (tGt k t) (tS k W b) D σ H := by
  obtain ⟨L, S, g, B, gB, f, p⟩ := h
  refine ⟨L, S, g, f.loc, f.wf, st_e f p fun src S1 J H1 g1 f1 e1 y p1 => ?_⟩
  obtain ⟨all, dep⟩ := src
  let Wv : Nat → Nat → L2.St → Hp → Prop := fun i m σ' H' => ∃ Lc Sc gc, m = all.length - i ∧ i ≤ all.length ∧ Fr k B gB σ' Lc H' gc Sc ∧ PExt H1 g1 H' gc ∧ SPost k B gB W H' gc (forL dep all t b (all.drop i) Lc Sc) D
  refine ⟨Wv, ⟨all.length, L, S1, g1, by omega, Nat.zero_le _, f1, PExt.refl H1 g1, by rw [List.drop_zero]; exact p1⟩, ?_⟩
  rintro i m σ2 H2 ⟨Lc, Sc, gc, rfl, hi, fc, ec, pc⟩
  by_cases hlt : i < all.length
  · rw [List.drop_eq_getElem_cons hlt] at pc
    obtain ⟨dok, pc⟩ := ckS_ok pc
    obtain ⟨go, yl⟩ := (y H2 gc Sc i ec fc.wf dok).2 all[i] (List.getElem?_eq_getElem hlt)
    refine .inr ⟨go, fun σ' H' => ∃ m', m' < all.length - i ∧ Wv (i + 1) m' σ' H', fun σ' H' h => h, fun x H3 hy => ?_⟩
    obtain ⟨e3, w3, r3⟩ := yl x H3 hy
    have f3 := fc.ext e3 w3
    cases q : tgA t all[i] Lc with
    | none => rw [q] at pc; exact pc.elim
    | some L1 =>
      rw [q] at pc
      refine ⟨all[i], Lc, Sc, gc, L1, r3, f3.loc, w3, q, fun σ4 l4 fm => ⟨L1, Sc, gc, B, gB, tg_fr f3 l4 q fm, turn_end (SPost.from pc e3.toPExt) fun σ' L' H' g' S' f' e' p' => ?_⟩⟩
      exact ⟨_, by omega, L', S', g', rfl, hlt, f', (ec.trans e3.toPExt).trans e', p'⟩
  · have ei : all.length = i := by omega
    rw [List.drop_eq_nil_of_le (by omega)] at pc
    obtain ⟨dok, pc⟩ := ckS_ok pc
    exact .inl ⟨(y H2 gc Sc i ec fc.wf dok).1 ei, SPost.nx pc fc⟩
section
variable {X : Cx} {W : WX} {c tg iter : Expr} {body : List Stmt} {pos : Pos} {b : SM} {mc : Ls → Sto → R Bool} {mi : Ls → Sto → R Src} {t : Tg}
theorem ss_for (hp : PassesOwn (model X.prog X.w) X.A X.env X.xe) (hc : X.calm = true) (hi : PI X tg iter (tI (kx X) PExt W mi)) (hg : PG X tg (tGt (kx X) t)) (hb : SB X W body b) (hm : notMark iter = true) : SS X W (.For tg iter body [] pos) (sFor mi t b) :=
  PS.imp (ps_for hp hc hi hg hb (no_fold hm)) fun D σ H h => for_read h
end
def endR : RS → R D
  | .ok .nx _ S => .ok .non S
  | .ok (.rt d) _ S => .ok d S
  | .ex x _ S => .ex x S
  | _ => .no
def fnSem (n np : Nat) (m : SM) : Fn := fun ds S => if ds.length = np then endR (m (ds.map .v ++ List.replicate (n - np) .un) S) else .no
theorem loc_start {k : Kx} {H : Hp} {g : G} {ds : List D} {vs : List V} {N : List Str} (r : RepL k H g ds vs) : LocRel k (L2.start N vs) (ds.map .v ++ List.replicate (N.length - ds.length) .un) H g where
  len := by unfold L2.start; simp [r.length]
  val := fun i d h => by
    unfold L2.start
    by_cases hi : i < ds.length
    · rw [List.getElem?_append_left (by rw [List.length_map]; exact hi), List.getElem?_map] at h
      cases q : ds[i]? with
      | none => rw [q] at h; cases h
      | some e =>
        rw [q] at h
        cases h
        obtain ⟨v, h1, h2⟩ := r.get q
        exact ⟨v, by rw [List.getElem?_append_left (by rw [List.length_map, r.length]; exact hi), List.getElem?_map, h1]; rfl, h2⟩
    · rw [List.getElem?_append_right (by rw [List.length_map]; omega), List.getElem?_replicate] at h
      split at h <;> cases h
  own := fun i o h => by
    by_cases hi : i < ds.length
    · rw [List.getElem?_append_left (by rw [List.length_map]; exact hi), List.getElem?_map] at h
      cases q : ds[i]? with
      | none => rw [q] at h; cases h
      | some e => rw [q] at h; cases h
    · rw [List.getElem?_append_right (by rw [List.length_map]; omega), List.getElem?_replicate] at h
      split at h <;> cases h
  sep := fun i j o u a h => by
    by_cases hi : i < ds.length
    · rw [List.getElem?_append_left (by rw [List.length_map]; exact hi), List.getElem?_map] at h
      cases q : ds[i]? with
      | none => rw [q] at h; cases h
      | some e => rw [q] at h; cases h
    · rw [List.getElem?_append_right (by rw [List.length_map]; omega), List.getElem?_replicate] at h
      split at h <;> cases h
  exc := fun i x h => by
    by_cases hi : i < ds.length
    · rw [List.getElem?_append_left (by rw [List.length_map]; exact hi), List.getElem?_map] at h
      cases q : ds[i]? with
      | none => rw [q] at h; cases h
      | some e => rw [q] at h; cases h
    · rw [List.getElem?_append_right (by rw [List.length_map]; omega), List.getElem?_replicate] at h
      split at h <;> cases h
theorem fn_body {k : Kx} {n np : Nat} {m : SM} {N : List Str} {vs : List V} {H : Hp} {Q : VK} {E : XK} (hn : N.length = n) (h : spC k (fnSem n np m) vs H Q E) :
    tS k (fun c d _ H => E c d H) m { nx := fun _ H' => Q .non H', rt := Q } (L2.start N vs) H := by
  obtain ⟨ds, S, g, r, w, p⟩ := h
  unfold fnSem at p
  split at p
  · rename_i hl
    subst hn
    subst hl
    refine ⟨_, S, g, H, g, ⟨loc_start r, w, Ext.refl H g, fun i o a h h' => ?_⟩, ?_⟩
    · exfalso
      by_cases hi : i < ds.length
      · rw [List.getElem?_append_left (by rw [List.length_map]; exact hi), List.getElem?_map] at h
        cases q : ds[i]? with
        | none => rw [q] at h; cases h
        | some e => rw [q] at h; cases h
      · rw [List.getElem?_append_right (by rw [List.length_map]; omega), List.getElem?_replicate] at h
        split at h <;> cases h
    · cases q : m (ds.map .v ++ List.replicate (N.length - ds.length) .un) S with
      | no => rw [q] at p; exact p.elim
      | ex x L S1 => rw [q] at p; exact fun c d σ' H' g' f' e' xr => p c d H' g' f'.base f'.wf xr
      | ok fl L S1 =>
        rw [q] at p
        cases fl with
        | nx => exact fun σ' H' g' f' e' => p .non H' g' f'.base f'.wf rfl
        | rt d => exact fun σ' H' g' f' e' v rv => p v H' g' f'.base f'.wf rv
        | bk => exact p.elim
        | ct => exact p.elim
  · exact p.elim
abbrev WE (E : XK) : WX := fun c d _ H => E c d H
/-- a def's body keeps its promise -/
theorem fn_ofG {P : Program} {w : World} {K : PySem.W.Frag} {mg : Str → Option Value} {base : Heap} {x qual : Str} {params : Arguments} {body : List Stmt} {scope : Scope} {dvs : List V} {kws : List (Str × V)} {f : Addr} {fd : FuncData} {CX : CXT} {N ps : List Str} {k : Nat} {sp : Sp}
    (F : FunD K x qual params body scope dvs kws f fd) (S : FnScope N ps scope) (len : ∀ vs H Q E, sp vs H Q E → vs.length = ps.length)
    (hbody : ∀ (cdv : Value) (A : Around) (outer : List Env) (s : Shared) (H : Hp) (vs : List V) (Q : VK) (E : XK), RoomG k (A.deeper (PyProof.Rows.envOfC qual scope s.heap.objs.size f cdv)) → sp vs H Q E →
      ∃ t, PSs (cxOf CX P w K mg base N qual scope f cdv A outer s H E) body t ∧ t { nx := fun _ H' => Q .non H', rt := Q } (L2.start N vs) H) : FnOkG P w K mg base CX (k + 1) f fd ps sp := by
  obtain ⟨oc, od, dV, kV, doc, pm, an, cdv, ct, osl, rfl, lk, hcd, _, _⟩ := F.ex
  refine ⟨len, fun A outer s H args us vs Q E hr e0 hb r hsp => ?_⟩
  have KX : K.In s.heap := e0.mod.kin.keeps fun b o e => (e0.bs b o e).1
  refine codeAny_call_function hr.depth (KX _ _ lk) rfl S.co S.gen rfl (PySem.W.codeRec_of KX hcd) (hb _ _ _ _ (wpAny_newFunctionEnv_cells S.kind (fun y hy => ?_) fun env he s1 z => ?_))
  · exact (S.par y.1 (List.of_mem_zip (a := y.1) (b := y.2) hy).1).imp id fun q => ⟨q, PySem.W.cellsFrom_some _ _ _ (.inl q)⟩
  · subst he
    obtain ⟨t, ht, hq⟩ := hbody cdv A outer s H vs Q E (hr.deeper _) hsp
    refine ⟨(e0.mod.nolimit.keeps fun b o e => (e0.bs b o e).1).keeps z.toInCall.keep, codeAny_func (wpAny_mono (ht.run [] s1 _ H _ (inv_start S hr.hd e0 (len _ _ _ _ hsp) r z) hq) (fun fl s' hs => ?_) fun e s' hs => hs)⟩
    match fl, hs with
    | .ret u, ⟨v, _, H', J, rv, q⟩ => exact ⟨v, H', J.os, J.bare, J.base, J.hok, rv, q⟩
    | .next, ⟨_, H', J, q⟩ => exact ⟨.non, H', J.os, J.bare, J.base, J.hok, rfl, q⟩
    | .brk, ⟨_, _, _, q⟩ => exact q.elim
    | .cont, ⟨_, _, _, q⟩ => exact q.elim
theorem rf_fn {P : Program} {w : World} {K : PySem.W.Frag} {mg : Str → Option Value} {base : Heap} {x qual : Str} {params : Arguments} {body : List Stmt} {scope : Scope} {dvs : List V} {kws : List (Str × V)} {f : Addr} {fd : FuncData} {N ps : List Str} {n np j : Nat} {m : SM}
    (F : FunD K x qual params body scope dvs kws f fd) (S : FnScope N ps scope) (hn : N.length = n) (hp : ps.length = np)
    (hb : ∀ (cdv : Value) (A : Around) (outer : List Env) (s : Shared) (H : Hp) (E : XK), RoomG j (A.deeper (PyProof.Rows.envOfC qual scope s.heap.objs.size f cdv)) →
      Takes (cxOf (L2.CX P w) P w K mg base N qual scope f cdv A outer s H E) (WE E) → PassesOwn (model P w) (A.deeper (PyProof.Rows.envOfC qual scope s.heap.objs.size f cdv)) (PyProof.Rows.envOfC qual scope s.heap.objs.size f cdv) (cxOf (L2.CX P w) P w K mg base N qual scope f cdv A outer s H E).xe →
      SB (cxOf (L2.CX P w) P w K mg base N qual scope f cdv A outer s H E) (WE E) body m) : FnOkG P w K mg base (L2.CX P w) (j + 1) f fd ps (spC (k0 K mg w) (fnSem n np m)) :=
  fn_ofG F S (fun vs H Q E ⟨ds, S, g, r, w, p⟩ => by
      unfold fnSem at p
      split at p
      · rename_i hl
        rw [r.length, hl, hp]
      · exact p.elim)
    fun cdv A outer s H vs Q E hr h => ⟨_, hb cdv A outer s H E hr (takes_of (X := cxOf (L2.CX P w) P w K mg base N qual scope f cdv A outer s H E) rfl rfl rfl rfl) (passes_of (X := cxOf (L2.CX P w) P w K mg base N qual scope f cdv A outer s H E) rfl), fn_body hn (h.kc rfl rfl rfl)⟩
end Rf
set_option Elab.async false
set_option linter.all false
set_option maxRecDepth 100000
namespace Rf
open PySem L2 TL
section
variable {X : Cx} {W : WX} {st : Stmt} {e a b c o ix : Expr} {pos pos' : Pos} {m mi mo : EM} {i j l : Nat} {x y z : Str} {ma : Ls → Sto → R (List D)}
theorem ss_par2 {px py pt pt2 : Pos} {kt k2 : Nat} (hc : X.calm = true) (hN : X.N.Nodup) (hi : X.N[i]? = some x) (hj : X.N[j]? = some y) (hij : i ≠ j)
    (hx : X.env.scope.names.lookup x = some .local) (hy : X.env.scope.names.lookup y = some .local) (ha : SAE X W [a, b] ma)
    (hw : swappedStores [.Tuple [.Name x px, .Name y py] kt pt] (.Tuple [a, b] k2 pt2) X.env = pure (some [x, y])) :
    SS X W (.Assign [.Tuple [.Name x px, .Name y py] kt pt] (.Tuple [a, b] k2 pt2) pos) (sPar2 i j ma) :=
  PS.imp (ps_par hc hN hi hj hij hx hy ha hw) fun D σ H h => par_read2 h
theorem ss_putO {ps : Pos} (ho : SE X W o mo) (hi : SE X W ix mi) (he : SE X W e m) (hn : notComp e = true)
    (ha : ∀ v, assign (.Subscript o ix ps) X.env v = (do
      let ov ← holding [v] (eval o X.env)
      let iv ← holding [v, ov] (eval ix X.env)
      standAt ps
      holding [v, ov, iv] (setItem ov iv v)
      release [v, ov, iv] [])) : SS X W (.Assign [.Subscript o ix ps] e pos) (sPutO mo mi m) :=
  PS.imp (ps_asg he (pg_sub ho hi set_list ha) (by unfold swapsWithSole; exact no_swap hn) rfl rfl) fun D σ H ⟨L, S, g, B, gB, f, p⟩ =>
    ⟨L, S, g, f.loc, f.wf, st_e f p fun d S1 v H1 g1 f1 e1 r p1 => ⟨L, S1, g1, f1.loc, f1.wf, st_e f1 p1 fun od S2 w H2 g2 f2 e2 r2 p2 => by
      split at p2
      · rename_i n
        obtain ⟨hn, rfl⟩ := r2
        refine ⟨L, S2, g2, f2.loc, f2.wf, st_e f2 p2 fun jd S3 u H3 g3 f3 e3 r3 p3 => ?_⟩
        split at p3
        · rename_i kk
          cases r3
          split at p3
          · rename_i ds q
            split at p3
            · rename_i jj hjj
              obtain ⟨us, hu, ru⟩ := f3.wf.ob n _ q
              obtain ⟨f4, pe⟩ := f3.obj q (ru.set jj (r.mono (e2.trans e3).toPExt _ _))
              refine ⟨_, us, kk, jj, rfl, rfl, ?_, by rw [ru.length]; exact hjj, ?_⟩
              · rw [← e3.ρ n hn]; exact hu
              · rw [← e3.ρ n hn]; exact p3 σ _ g3 f4 pe
            · exact p3.elim
          · exact p3.elim
        · exact p3.elim
      · exact p2.elim⟩⟩
end
end Rf
set_option Elab.async false
set_option linter.all false
set_option maxRecDepth 100000
namespace Rf
open PySem L2 TL
def notInt : D → Bool
  | .int _ => false
  | _ => true
theorem notInt_v {k : Kx} {H : Hp} {g : G} : ∀ {d : D} {v : V}, notInt d = true → Rep k H g d v → ∀ i, v ≠ V.int i
  | .non, _, _, r, i => by cases (show _ = V.non from r); exact nofun
  | .bl b, _, _, r, i => by cases (show _ = V.bl b from r); exact nofun
  | .int _, _, h, _, _ => by cases h
  | .str x, _, _, r, i => by cases (show _ = V.str ⟨x.toArray⟩ from r); exact nofun
  | .tup _, _, _, ⟨a, _, e, _⟩, i => by subst e; exact nofun
  | .lst _, _, _, ⟨a, _, e, _⟩, i => by subst e; exact nofun
  | .obj n, _, _, ⟨_, e⟩, i => by subst e; exact nofun
  | .gl _, _, _, ⟨a, _, e⟩, i => by subst e; exact nofun
  | .ty n, _, _, r, i => by cases (show _ = V.ty n from r); exact nofun
  | .scr _, _, _, ⟨a, e, _⟩, i => by subst e; exact nofun
  | .edc, _, _, ⟨a, e, _⟩, i => by subst e; exact nofun
  | .ins _ _ _, _, _, ⟨a, _, _, _, e, _⟩, i => by subst e; exact nofun
theorem notInt_l {k : Kx} {H : Hp} {g : G} : ∀ {ds : List D} {vs : List V}, ds.any notInt = true → RepL k H g ds vs → ∃ v ∈ vs, ∀ i, v ≠ V.int i
  | [], _, h, _ => by cases h
  | d :: ds, _, h, ⟨v, r, e, h1, h2⟩ => by
    subst e
    rw [List.any_cons, Bool.or_eq_true] at h
    rcases h with h | h
    · exact ⟨v, List.mem_cons_self, notInt_v h h1⟩
    · obtain ⟨u, hu, q⟩ := notInt_l h h2
      exact ⟨u, List.mem_cons_of_mem _ hu, q⟩
mutual
def ckV (K : PySem.W.Frag) : D → Value → Bool
  | .non, .none => true
  | .bl b, .bool c => b == c
  | .int i, .int j _ => decide (i = j)
  | .str x, .str y _ => decide (y = ⟨x.toArray⟩)
  | .tup ds, .ref a => match K.lookup a with
    | some ⟨.type c, _, .seq its _, _⟩ => decide (c = "tuple") && (decide (its.size ≤ sizeLine) && (ckL K ds its.toList && (ds.any notInt || ds.isEmpty)))
    | _ => false
  | _, _ => false
def ckL (K : PySem.W.Frag) : List D → List Value → Bool
  | [], [] => true
  | d :: ds, v :: vs => ckV K d v && ckL K ds vs
  | _, _ => false
end
mutual
theorem ckV_ok {k : Kx} : ∀ (d : D) (u : Value), ckV k.K d u = true → ∃ v, RelV v u ∧ ∀ H g, Rep k H g d v
  | .non, u, h => by cases u <;> first | exact ⟨.non, rfl, fun _ _ => rfl⟩ | cases h
  | .bl b, u, h => by
    cases u <;> first | cases h | skip
    rename_i c
    have e : b = c := by simpa [ckV] using h
    subst e
    exact ⟨.bl b, rfl, fun _ _ => rfl⟩
  | .int i, u, h => by
    cases u <;> first | cases h | skip
    rename_i j t
    have e : i = j := by simpa [ckV] using h
    subst e
    exact ⟨.int i, ⟨_, rfl⟩, fun _ _ => rfl⟩
  | .str x, u, h => by
    cases u <;> first | cases h | skip
    rename_i y t
    have e : y = ⟨x.toArray⟩ := by simpa [ckV] using h
    subst e
    exact ⟨.str ⟨x.toArray⟩, ⟨_, rfl⟩, fun _ _ => rfl⟩
  | .tup ds, u, h => by
    cases u <;> first | cases h | skip
    rename_i a
    unfold ckV at h
    split at h
    · rename_i c od its n sl q
      simp only [Bool.and_eq_true, decide_eq_true_eq] at h
      obtain ⟨rfl, hz, h, hn⟩ := h
      obtain ⟨vs, r, rr⟩ := ckL_ok ds its.toList h
      exact ⟨.ref a, rfl, fun H g => ⟨a, vs, rfl, .inr ⟨⟨_, its, n, q, rfl, rfl, hz, r⟩, by
        rw [Bool.or_eq_true] at hn
        rcases hn with hn | hn
        · exact .inl (notInt_l hn (rr H g))
        · obtain rfl : ds = [] := by simpa using hn
          exact .inr (rr H g)⟩, rr H g⟩⟩
    · cases h
  | .lst _, u, h => by cases u <;> cases h
  | .obj _, u, h => by cases u <;> cases h
  | .gl _, u, h => by cases u <;> cases h
  | .ty _, u, h => by cases u <;> cases h
  | .scr _, u, h => by cases u <;> cases h
  | .edc, u, h => by cases u <;> cases h
  | .ins _ _ _, u, h => by cases u <;> cases h
theorem ckL_ok {k : Kx} : ∀ (ds : List D) (us : List Value), ckL k.K ds us = true → ∃ vs, Vals vs us ∧ ∀ H g, RepL k H g ds vs
  | [], [], _ => ⟨[], .nil, fun _ _ => rfl⟩
  | [], _ :: _, h => by cases h
  | _ :: _, [], h => by cases h
  | d :: ds, u :: us, h => by
    have h' : ckV k.K d u = true ∧ ckL k.K ds us = true := by simpa [ckL] using h
    obtain ⟨v, r1, p1⟩ := ckV_ok d u h'.1
    obtain ⟨vs, r2, p2⟩ := ckL_ok ds us h'.2
    exact ⟨v :: vs, .cons r1 r2, fun H g => ⟨v, vs, rfl, p1 H g, p2 H g⟩⟩
end
/-- the module's name x is d -/
def ckG (K : PySem.W.Frag) (x : Str) (d : D) : Bool := match PySem.W.nsIn K mainGlobals x with
  | some (some u) => ckV K d u
  | _ => false
def ConAt (k : Kx) (x : Str) (d : D) : Prop := ∃ u v, k.mg x = some u ∧ RelV v u ∧ ∀ H g, Rep k H g d v
theorem ckG_ok {k : Kx} {h : Heap} (KX : k.K.In h) (G : h.Ns mainGlobals k.mg) {x : Str} {d : D} (c : ckG k.K x d = true) : ConAt k x d := by
  unfold ckG at c
  split at c
  · rename_i u e
    obtain ⟨v, r, p⟩ := ckV_ok (k := k) d u c
    exact ⟨u, v, PySem.W.mg_of KX G e, r, p⟩
  · cases c
section
variable {X : Cx} {W : WX} {x : Str} {p : Pos} {d : D}
theorem se_con (h : ConAt (k0 X.K X.mg X.w) x d) (hg : Gl X x) (hd : (x == ("__debug__" : Str)) = false) : SE X W (.Name x p) (eC d) := by
  obtain ⟨u, v, hm, r, q⟩ := h
  exact se_const (pe_glob hg hm r hd) fun H g => Rep.kc (k := k0 X.K X.mg X.w) (k' := kx X) rfl rfl _ _ (q H g)
end
abbrev Tb := List (List Nat × D)
def Tb.get (t : Tb) (z : List Nat) : Option D := (t.find? fun q => q.1 == z).map (·.2)
section
variable {X : Cx} {W : WX} {x : Str} {e : Expr} {p pos : Pos} {t : Tb} {m : EM}
def eInT (neg : Bool) (t : Tb) (m : EM) : EM := fun L S => (m L S).bind fun d S1 => match d with
  | .str z => .ok (.bl (neg != (t.get z).isSome)) S1
  | _ => .no
def eIxT (t : Tb) (m : EM) : EM := fun L S => (m L S).bind fun d S1 => match d with
  | .str z => lift (t.get z) S1
  | _ => .no
end
end Rf
set_option Elab.async false
set_option linter.all false
set_option maxRecDepth 100000
namespace Rf
open PySem L2 TL
theorem takes_no {X : Cx} : Takes X WN := fun _ _ ⟨_, _, _, _, _, _, _, _, _, _, _, _, _, _, _, _, z⟩ => z.elim
theorem se_str {X : Cx} {W : WX} {x : Str} {j : Nat} {pos : Pos} {l : List Nat} (h : x = ⟨l.toArray⟩) : SE X W (.Constant (.str x) j pos) (eC (.str l)) := se_const pe_str fun _ _ => by rw [h] <;> rfl
theorem se_int {X : Cx} {W : WX} {x : Int} {j : Nat} {pos : Pos} : SE X W (.Constant (.int x) j pos) (eC (.int x)) := se_const pe_int fun _ _ => rfl
theorem se_bl {X : Cx} {W : WX} {x : Bool} {j : Nat} {pos : Pos} : SE X W (.Constant (.bool x) j pos) (eC (.bl x)) := se_const pe_bl fun _ _ => rfl
theorem se_non {X : Cx} {W : WX} {j : Nat} {pos : Pos} : SE X W (.Constant .none j pos) (eC .non) := se_const pe_non fun _ _ => rfl
theorem se_ty {X : Cx} {W : WX} {x : Str} {n : String} {pos : Pos} (hg : Gl X x) (hm : X.mg x = none) (hv : bootBuiltins x = some (.type n)) (hn : x ≠ "__name__") (hd : (x == ("__debug__" : Str)) = false) : SE X W (.Name x pos) (eC (.ty n)) :=
  se_const (pe_bltn hg hm hv (v := .ty n) rfl hn hd) fun _ _ => rfl
def sNo : SM := fun _ _ => .no
theorem sb_no {X : Cx} {W : WX} {sts : List Stmt} : SB X W sts sNo := PSs.imp pss_never fun D σ H ⟨_, _, _, _, _, _, p⟩ => p.elim
def FnIn (P : Program) (w : World) (K : PySem.W.Frag) (mg : Str → Option Value) (base : Heap) (x : Str) (j : Nat) (c : Fn) : Prop :=
  ∃ (f : Addr) (fd : FuncData) (ps : List Str), FnOkG P w K mg base (L2.CX P w) j f fd ps (spC (k0 K mg w) c) ∧ mg x = some (.ref f) ∧ PySem.W.keepIn K (.ref f) = true ∧ Binds K fd ps []
theorem FnIn.at {P : Program} {w : World} {K : PySem.W.Frag} {mg : Str → Option Value} {base : Heap} {x : Str} {i j : Nat} {c : Fn} {X : Cx} (h : FnIn P w K mg base x j c) (hr : RoomG i X.A) (hl : j ≤ i)
    (h1 : X.prog = P) (h2 : X.w = w) (h3 : X.K = K) (h4 : X.mg = mg) (h5 : X.base = base) : FnAt X x c := by
  subst h1 h2 h3 h4 h5
  obtain ⟨f, fd, ps, F, hm, hk, hb⟩ := h
  exact ⟨j, f, fd, ps, F, hr.mono hl, hm, hk, hb⟩
/-- where a def stands -/
def DefAt (K : PySem.W.Frag) (mg : Str → Option Value) (x : Str) (st : Stmt) : Prop := ∃ (f : Addr) (fd : FuncData), FunD K x x (defArgs st) (defBody st) (defScope st) [] [] f fd ∧ mg x = some (.ref f)
theorem def_at {fa : List He.Fa} {fn : List He.DefD} {K : PySem.W.Frag} {h : Heap} {mg : Str → Option Value} (X : K.In h) (G : h.Ns mainGlobals mg) (c : He.SaysD fa fn K) {x : Str} {st : Stmt}
    (h1 : (⟨(x, none), x, x, defArgs st, defBody st, defScope st, [], []⟩ : He.DefD) ∈ fn) (h2 : He.Fa.glo x ∈ fa) : DefAt K mg x st := by
  obtain ⟨fd, F⟩ := c.defs h1
  exact ⟨_, fd, F, He.glo_ok X G (c.facts h2)⟩
theorem free_at {fa : List He.Fa} {fn : List He.DefD} {K : PySem.W.Frag} {h : Heap} {mg : Str → Option Value} (X : K.In h) (G : h.Ns mainGlobals mg) (c : He.SaysD fa fn K) {x : Str} (h2 : He.Fa.free x ∈ fa) : mg x = none := He.free_ok X G (c.facts h2)
theorem law_end {k : Kx} {c : Fn} {ns : List Int} (h : ∃ S, c [.scr ns] [] = .ok (.bl true) S) {H : Hp} {a : Addr} (hl : Only H) (hs : SqL k.K H a (ns.map V.int)) : spC k c [.ref a] H (fun v _ => v = .bl true) (fun _ _ _ => False) := by
  obtain ⟨S, e⟩ := h
  refine ⟨[.scr ns], [], ⟨fun _ => False, fun _ => 0, 0⟩, ⟨_, [], rfl, ⟨a, rfl, ?_⟩, rfl⟩, ⟨rfl, fun i o h => by simp at h, fun i j h => absurd h (Nat.not_lt_zero _), fun i h => absurd h (Nat.not_lt_zero _), fun a h => h.elim⟩, ?_⟩
  · rcases hs with hs | hs
    · rcases hs with hs | ⟨o, hs⟩
      · rcases hl a with z | ⟨o, xs, z⟩
        · rw [hs] at z; cases z
        · rw [hs] at z; cases z
      · exact .inl ⟨o, hs⟩
    · exact .inr hs
  · rw [e]
    exact fun v H' g' e w r => r
theorem no_cx {P : Program} {w : World} (H : Hp) (s : Shared) (e : Value) (s' : Shared) (h : L2.CX P w [] H s (fun _ _ _ => False) e s') : False := by
  obtain ⟨_, _, _, _, _, _, _, _, _, _, _, _, h⟩ := h
  exact h
open PySem.Spec PyProof.Rows in
/-- the law is called: from the promise to the end -/
theorem law_callG {P : Program} {w : World} {K : PySem.W.Frag} {mg mb : Str → Option Value} {CX : CXT} {k : Nat} {fa a : Addr} {fd : FuncData} {x : Str} {sp : Sp} {s : Shared} {vs : List Value} {ns : List Int}
    (KX : K.In s.heap) (hns : s.heap.Ns mainGlobals mg) (hb : s.heap.Ns builtinsNs mb) (hbb : ∀ x : Str, x ≠ "__name__" → mb x = bootBuiltins x) (hlim : s.heap.NoLimit) (hg : s.gens = #[])
    (ha : s.heap.get? a = some { cls := .type "list", data := .seq vs.toArray }) (hi : IntsAre vs ns) (hl : ns.length ≤ sizeLine) (hr : RoomG k callerA)
    (F : ∀ base : Heap, K.In base → base.Ns mainGlobals mg → FnOkG P w K mg base CX k fa fd [x] sp) (hbind : ∀ (s : Shared) (u : Value), BindsTo s fd ⟨[u], []⟩ [(x, u)])
    (hsp : ∀ H : Hp, Only H → SqL K H a (ns.map V.int) → sp [.ref a] H (fun v _ => v = .bl true) fun _ _ _ => False) (hCX : ∀ H e s', CX [] H s (fun _ _ _ => False) e s' → False) :
    codeAny (model P w) callerA (.call (.ref fa) ⟨[.ref a], []⟩) (fun r s' => r = .ok (.ret (.bool true)) ∧ OldK s.heap s'.heap ∧ s'.os = s.os ∧ AllBare s'.gens) s := by
  have rv := vals_ints hi
  have go : ∀ H : Hp, Only H → SqL K H a (ns.map V.int) → HOk P w H s.heap → (∀ b, H b ≠ none → b = a ∧ K.lookup a = none) →
      codeAny (model P w) callerA (.call (.ref fa) ⟨[.ref a], []⟩) (fun r s' => r = .ok (.ret (.bool true)) ∧ OldK s.heap s'.heap ∧ s'.os = s.os ∧ AllBare s'.gens) s := by
    intro H hO hS hok hA
    -- what is no list is not tracked
    have free : ∀ {b : Addr} {o : Obj}, s.heap.get? b = some o → (∀ xs n, o.data ≠ .seq xs n) → H b = none := fun {b o} e d => Classical.byContradiction fun q => by
      rw [(hA b q).1, ha] at e
      cases e
      exact d _ _ rfl
    have ns : ∀ {b : Addr} {m : Str → Option Value}, s.heap.Ns b m → (hidT s.heap H).Ns b m := fun ⟨o, es, ep, e, d, r⟩ => ⟨o, es, ep, hidT_get e (free e fun _ _ z => by rw [d] at z; cases z), d, r⟩
    have kin : K.In (hidT s.heap H) := fun b o e => hidT_get (KX b o e) (Classical.byContradiction fun q => by
      obtain ⟨q1, q2⟩ := hA b q
      rw [q1, q2] at e; cases e)
    have mod : Mod K mg (hidT s.heap H) := ⟨kin, ns hns, ⟨mb, ns hb, hbb⟩, hlim.elim fun mc h => ⟨mc, ns h.1, h.2⟩⟩
    refine codeAny_mono ((F _ kin (ns hns)).run callerA [] s H ⟨[.ref a], []⟩ [.ref a] [.ref a] _ _ hr ⟨rfl, mod, fun b o e => of_hidT e, Nat.le_of_eq (hidT_size _ _), trivial, (fun b hb => absurd (show b ∈ ([] : List Addr) from hb) (by simp)), hok, .of_eq hg⟩ (hbind s (.ref a)) (.cons rfl .nil) (hsp H hO hS)) fun r s' h => ?_
    match r, h with
    | .error e, h => exact (hCX H e s' h).elim
    | .ok (.ret u), ⟨v, H', os, bare, un, hok', r', q⟩ =>
      cases (show v = .bl true from q)
      cases (show u = Value.bool true from r')
      refine ⟨rfl, OldK.of_keep fun b o e => ?_, os, bare⟩
      rcases hO b with z | ⟨ob, xs, z⟩
      · exact un.keep b o e z (fun y => absurd (show b ∈ ([] : List Addr) from y) (by simp)) (by simp)
      · have e1 := (hok b _ z).1
        rw [e] at e1
        cases e1
        exact (hok' b _ (un.frzs b _ _ z)).1
  cases hk : K.lookup a with
  | some o =>
    have e := KX a o hk
    rw [ha] at e
    cases e
    exact go (fun _ => none) (fun _ => .inl rfl) (.inr ⟨_, vs.toArray, _, hk, rfl, rfl, rfl, by rw [List.size_toArray, hi.length]; exact hl, by simpa using rv⟩) (fun b u z => by cases (show (none : Option HO) = some u from z)) fun b z => absurd rfl z
  | none =>
    refine go (upd (fun _ => none) a (.frz { cls := .type "list", data := .seq vs.toArray } (.lst (ns.map V.int)))) (fun b => ?_) (.inl (.inr ⟨_, upd_same⟩)) (fun b u z => ?_) fun b z => ⟨Classical.byContradiction fun q => z (by rw [upd_ne q]), hk⟩
    · by_cases q : b = a
      · subst q; exact .inr ⟨_, _, upd_same⟩
      · exact .inl (by rw [upd_ne q])
    · by_cases q : b = a
      · subst q
        rw [upd_same] at z
        cases z
        exact ⟨ha, by rw [List.length_map]; exact hl, vs, _, rv, ha⟩
      · rw [upd_ne q] at z; cases z
theorem rf_walk {l : PySem.W.OpenLaw} {n k : Nat} {q : Program} {loose : List Str} {XP : (Str → Option Value) → Heap → Prop} {YP : World → Heap → Prop} {d : DefRec} {x : Str} {c : Fn}
    (h1 : l.most = some n) (h2 : n ≤ sizeLine) (h3 : d.params.defaults = []) (h4 : RoomG k callerA)
    (h5 : ∀ (w : World) (mg : Str → Option Value) (f : Addr) (h : Heap), YP w h → h.Ns mainGlobals mg → mg d.name = some (.ref f) → ∃ (K : PySem.W.Frag) (fd : FuncData), K.In h ∧ (∀ (s : Shared) (u : Value), BindsTo s fd ⟨[u], []⟩ [(x, u)]) ∧
      ∀ base : Heap, FnOkG l.prog w K mg base (L2.CX l.prog w) k f fd [x] (spC (k0 K mg w) c))
    (law : ∀ ns : List Int, ns.length ≤ n → ∃ S, c [.scr ns] [] = .ok (.bl true) S) : PySem.W.WalkO q loose XP YP l.row.toRowW d [] (fun f vs => PySem.call f vs) := by
  refine Att.attach_call h1 h3 fun w _ s₁ mg _ f _ _ _ _ a vs ns G Y _ _ _ hmg hob hin hle hge => ?_
  obtain ⟨K, fd, KX, hb, hF⟩ := h5 w mg f _ Y G.T.g hmg
  exact law_callG (sp := spC (k0 K mg w) c) KX G.T.g G.T.b G.T.builtins G.T.nolimit hge hob hin (Nat.le_trans hle h2) h4 (fun base _ _ => hF base) hb
    (fun H hO hS => law_end (k := k0 K mg w) (law ns hle) hO hS) fun H e s' => no_cx H s₁ e s'
end Rf
set_option Elab.async false
set_option linter.all false
set_option maxRecDepth 100000
set_option maxHeartbeats 0
namespace Rf
open PySem L2 TL
/-- what is wanted where an exception leaves -/
class ExP where
  E : Exn → Sto → Prop
@[reducible] instance (priority := 10) noXP : ExP := ⟨fun _ _ => False⟩
def wpP [xp : ExP] {α : Type} (r : R α) (P : α → Sto → Prop) : Prop := match r with
  | .ok a S => P a S
  | .ex x S => xp.E x S
  | .no => False
def wpsP [xp : ExP] (r : RS) (P : Fl → Ls → Sto → Prop) : Prop := match r with
  | .ok f L S => P f L S
  | .ex x _ S => xp.E x S
  | .no => False
/-- a structure, lest tactics look into it -/
structure WP (xp : ExP) {α : Type} (r : R α) (P : α → Sto → Prop) : Prop where
  out : wpP r P
abbrev wp [xp : ExP] {α : Type} (r : R α) (P : α → Sto → Prop) : Prop := WP xp r P
structure WPS (xp : ExP) (r : RS) (P : Fl → Ls → Sto → Prop) : Prop where
  out : wpsP r P
abbrev wps [xp : ExP] (r : RS) (P : Fl → Ls → Sto → Prop) : Prop := WPS xp r P
variable {xp : ExP}
theorem wp_eq {α : Type} {r : R α} {P : α → Sto → Prop} : wp r P = wpP r P := propext ⟨fun h => h.out, fun h => ⟨h⟩⟩
theorem wps_eq {r : RS} {P : Fl → Ls → Sto → Prop} : wps r P = wpsP r P := propext ⟨fun h => h.out, fun h => ⟨h⟩⟩
section
variable {α β : Type} {r : R α} {P Q : α → Sto → Prop} {S : Sto} {L : Ls}
theorem wp_bind {f : α → Sto → R β} {P : β → Sto → Prop} : wp (r.bind f) P = wp r fun a S => wp (f a S) P := by
  rw [wp_eq, wp_eq]
  cases r with
  | ok a S => exact wp_eq.symm
  | _ => rfl
theorem wps_st {f : α → Sto → RS} {P : Fl → Ls → Sto → Prop} : wps (r.st L f) P = wp r fun a S => wps (f a S) P := by
  rw [wps_eq, wp_eq]
  cases r with
  | ok a S => exact wps_eq.symm
  | _ => rfl
theorem wps_seq {r : RS} {f : Ls → Sto → RS} {P : Fl → Ls → Sto → Prop} : wps (r.seq f) P = wps r fun fl L S => match fl with
    | .nx => wps (f L S) P
    | fl => P fl L S := by
  rw [wps_eq, wps_eq]
  cases r with
  | ok fl L S =>
    cases fl with
    | nx => exact wps_eq.symm
    | _ => rfl
  | _ => rfl
theorem wp.mono (h : wp r P) (i : ∀ a S, P a S → Q a S) : wp r Q := by cases r with | ok a S => exact ⟨i a S h.out⟩ | ex x S => exact ⟨h.out⟩ | no => exact h.out.elim
theorem wp.ex (h : @wp noXP α r P) : ∃ a S, r = .ok a S ∧ P a S := by cases r with | ok a S => exact ⟨a, S, rfl, h.out⟩ | _ => exact h.out.elim
theorem wp.of {a : α} (e : r = .ok a S) (h : P a S) : wp r P := by rw [e]; exact ⟨h⟩
theorem wps.mono {r : RS} {P Q : Fl → Ls → Sto → Prop} (h : wps r P) (i : ∀ a L S, P a L S → Q a L S) : wps r Q := by cases r with | ok a L S => exact ⟨i a L S h.out⟩ | ex x L S => exact ⟨h.out⟩ | no => exact h.out.elim
theorem wp_end {r : RS} {P : D → Sto → Prop} (h : wps r fun fl _ S => match fl with
    | .nx => P .non S
    | .rt d => P d S
    | _ => False) : wp (endR r) P := by
  cases r with
  | ok fl L S => cases fl <;> exact ⟨h.out⟩
  | ex x L S => exact ⟨h.out⟩
  | no => exact h.out.elim
end
/-- the law's deck at the store's first two places, n draws to come -/
def Deck (T : Sto) (n : Nat) (S : Sto) : Prop := ∃ (cs : List Int) (c : Int), S = .lst (cs.map .int) :: .lst [.obj 0, .int c] :: T ∧ (∀ x ∈ cs, 0 ≤ x) ∧ 0 ≤ c ∧ c + n ≤ 2 ^ 40 ∧ cs.length ≤ 63
noncomputable def m_deck : SM := sSeq (sRet (eNw (fLst (aCons (eNw (fLc (iVal (eSl (pVar 0) (oNo) (oSo (eC (.int 63))))) [1] (.nm 1) (tYs) (eCall bAbs (aCons (pVar 1) (aNil))))) (aCons (eC (.int 0)) (aNil)))))) (sNil)
theorem lc_map {all : List D} {t : Tg} {tt : Ls → Sto → R Bool} {te : EM} {Lw : Ls} {S : Sto} (f : D → D) : ∀ (ds acc : List D), (∀ d ∈ ds, ∃ L1, tgA t d Lw = some L1 ∧ tt L1 S = .ok true S ∧ te L1 S = .ok (f d) S) → acc.length + ds.length ≤ sizeLine →
    lcLoop none all t tt te Lw ds S acc = .ok (acc ++ ds.map f) S
  | [], acc, _, _ => by rw [lcLoop, ckd, List.map_nil, List.append_nil]
  | d :: ds, acc, h, hz => by
    obtain ⟨L1, e1, e2, e3⟩ := h d List.mem_cons_self
    rw [List.length_cons] at hz
    rw [lcLoop, ckd, e1]
    dsimp only
    rw [e2]
    dsimp only [R.nox, R.bind]
    rw [if_pos rfl, e3]
    dsimp only
    rw [if_pos (by omega), lc_map f ds (acc ++ [f d]) (fun x hx => h x (List.mem_cons_of_mem _ hx)) (by rw [List.length_append, List.length_singleton]; omega), List.map_cons, List.append_assoc, List.singleton_append]
noncomputable def c_deck : Fn := fnSem 2 1 m_deck
theorem deck_new {ns : List Int} (h : ns.length ≤ 63) {n : Nat} (hn : n ≤ 2 ^ 40) : ∃ S, c_deck [.scr ns] [] = .ok (.obj 1) S ∧ Deck [] n S := by
  have e : cutD (ns.map D.int) none (some 63) = ns.map .int := by
    unfold cutD
    have h1 : HT.sIx (ns.map D.int).length 0 none = 0 := rfl
    have h2 : HT.sIx (ns.map D.int).length (ns.map D.int).length (some 63) = (ns.map D.int).length := by
      rw [List.length_map]
      unfold HT.sIx
      simp
      omega
    rw [h1, h2, List.drop_zero, Nat.sub_zero, List.take_length]
  refine ⟨[.lst ((ns.map fun i => if i < 0 then -i else i).map .int), .lst [.obj 0, .int 0]], ?_, ⟨_, 0, rfl, fun x hx => ?_, Int.le_refl _, by omega, by rw [List.length_map]; exact h⟩⟩
  · have key : lcLoop none (ns.map D.int) (.nm 1) tYs (eCall bAbs (aCons (pVar 1) aNil)) [.v (.scr ns), .un] (ns.map .int) [] [] = .ok ((ns.map fun i => if i < 0 then -i else i).map .int) [] := by
      rw [lc_map (fun d => match d with | .int i => .int (if i < 0 then -i else i) | d => d) (ns.map .int) [] ?_ ?_]
      · rw [List.nil_append, List.map_map, List.map_map]
        rfl
      · intro d hd
        obtain ⟨i, _, rfl⟩ := List.mem_map.mp hd
        exact ⟨_, rfl, rfl, rfl⟩
      · rw [List.length_map, List.length_nil]
        have : (63 : Nat) ≤ sizeLine := by decide
        omega
    have k1 : fLc (iVal (eSl (pVar 0) oNo (oSo (eC (.int 63))))) [1] (.nm 1) tYs (eCall bAbs (aCons (pVar 1) aNil)) [.v (.scr ns), .un] [] = .ok ((ns.map fun i => if i < 0 then -i else i).map .int) [] := by
      show lcLoop none (cutD (ns.map D.int) none (some 63)) (.nm 1) tYs (eCall bAbs (aCons (pVar 1) aNil)) [.v (.scr ns), .un] (cutD (ns.map D.int) none (some 63)) [] [] = _
      rw [e]
      exact key
    have k2 : ∀ (x : Ls → Sto → R (List D)) (L : Ls) (l : List D), x L [] = .ok l [] → endR (sSeq (sRet (eNw (fLst (aCons (eNw x) (aCons (eC (.int 0)) aNil))))) sNil L []) = .ok (.obj 1) [.lst l, .lst [.obj 0, .int 0]] := by
      intro x L l hx
      simp only [sSeq, sRet, eNw, fLst, aCons, hx, aNil, eC]
      rfl
    exact k2 _ _ _ k1
  · obtain ⟨i, _, rfl⟩ := List.mem_map.mp hx
    show 0 ≤ if i < 0 then -i else i
    split <;> omega
section
variable {P : D → Sto → Prop} {PL : List D → Sto → Prop} {PB : Bool → Sto → Prop} {PO : Option Int → Sto → Prop} {PS : Fl → Ls → Sto → Prop} {PR : Src → Sto → Prop} {L : Ls} {S : Sto} {i j l : Nat} {d : D} {ds : List D} {a b c m : EM} {ma mr : Ls → Sto → R (List D)} {ta tb : Ls → Sto → R Bool} {sa sb : SM}
theorem r_lift {α : Type} {o : Option α} {Q : α → Sto → Prop} (h : ∃ z, o = some z ∧ Q z S) : wp (lift o S) Q := by obtain ⟨z, rfl, h⟩ := h; exact ⟨h⟩
theorem r_eVar (h : L[i]? = some (.v d)) (k : P d S) : wp (eVar i L S) P := by unfold eVar; rw [h]; exact ⟨k⟩
theorem r_pVar (h : L[i]? = some (.v d)) (k : P d S) : wp (pVar i L S) P := by unfold pVar; rw [h]; exact ⟨k⟩
theorem r_pOwn (h : L[i]? = some (.o (.lst ds))) (k : P (.lst ds) S) : wp (pVar i L S) P := by unfold pVar; rw [h]; exact ⟨k⟩
theorem r_ok (k : P d S) : wp (.ok d S) P := ⟨k⟩
theorem r_okL (k : PL ds S) : wp (.ok ds S) PL := ⟨k⟩
theorem r_eC (k : P d S) : wp (eC d L S) P := ⟨k⟩
theorem r_eBin {o : D → D → Option D} (h : wp (a L S) fun x S1 => wp (b L S1) fun y S2 => ∃ z, o (deref S2 x) (deref S2 y) = some z ∧ P z S2) : wp (eBin o a b L S) P := by
  unfold eBin; rw [wp_bind]; refine h.mono fun x S1 h => ?_; rw [wp_bind]; exact h.mono fun y S2 h => r_lift h
theorem r_eCh {o o' : D → D → Option D} (h : wp (a L S) fun x S1 => wp (b L S1) fun y S2 => ∃ t, o (deref S2 x) (deref S2 y) = some (.bl t) ∧ (t = true → wp (c L S2) fun z S3 => ∃ w, o' (deref S3 y) (deref S3 z) = some w ∧ P w S3) ∧ (t = false → P (.bl false) S2)) : wp (eCh o o' a b c L S) P := by
  unfold eCh; rw [wp_bind]; refine h.mono fun x S1 h => ?_; rw [wp_bind]; refine h.mono fun y S2 ⟨t, e, h1, h2⟩ => ?_
  rw [e]
  cases t with
  | true => show wp (R.bind _ _) P; rw [wp_bind]; exact (h1 rfl).mono fun z S3 h => r_lift h
  | false => first | exact h2 rfl | exact ⟨h2 rfl⟩ | exact (h2 rfl).mono fun _ _ k => ⟨k⟩
theorem r_eAn (h : wp (a L S) fun d S1 => ∃ t, d = .bl t ∧ (t = true → wp (b L S1) P) ∧ (t = false → P (.bl false) S1)) : wp (eAn a b L S) P := by
  unfold eAn; rw [wp_bind]; refine h.mono fun d S1 ⟨t, e, h1, h2⟩ => ?_
  subst e; cases t with
  | true => first | exact h1 rfl | exact ⟨h1 rfl⟩ | exact (h1 rfl).mono fun _ _ k => ⟨k⟩
  | false => first | exact h2 rfl | exact ⟨h2 rfl⟩ | exact (h2 rfl).mono fun _ _ k => ⟨k⟩
theorem r_eOo (h : wp (a L S) fun d S1 => ∃ t, d = .bl t ∧ (t = true → P (.bl true) S1) ∧ (t = false → wp (b L S1) P)) : wp (eOo a b L S) P := by
  unfold eOo; rw [wp_bind]; refine h.mono fun d S1 ⟨t, e, h1, h2⟩ => ?_
  subst e; cases t with
  | true => first | exact h1 rfl | exact ⟨h1 rfl⟩ | exact (h1 rfl).mono fun _ _ k => ⟨k⟩
  | false => first | exact h2 rfl | exact ⟨h2 rfl⟩ | exact (h2 rfl).mono fun _ _ k => ⟨k⟩
theorem r_eNt (h : wp (a L S) fun d S1 => ∃ t, d = .bl t ∧ P (.bl (!t)) S1) : wp (eNt a L S) P := by
  unfold eNt; rw [wp_bind]; refine h.mono fun d S1 ⟨t, e, h1⟩ => ?_
  subst e; first | exact h1 | exact ⟨h1⟩ | exact (h1).mono fun _ _ k => ⟨k⟩
theorem r_eIf (h : wp (ta L S) fun t S1 => (t = true → wp (a L S1) P) ∧ (t = false → wp (b L S1) P)) : wp (eIf ta a b L S) P := by
  unfold eIf; rw [wp_bind]; refine h.mono fun t S1 ⟨h1, h2⟩ => ?_
  cases t with
  | true => first | exact h1 rfl | exact ⟨h1 rfl⟩ | exact (h1 rfl).mono fun _ _ k => ⟨k⟩
  | false => first | exact h2 rfl | exact ⟨h2 rfl⟩ | exact (h2 rfl).mono fun _ _ k => ⟨k⟩
theorem r_eNeg (h : wp (a L S) fun d S1 => ∃ n, d = .int n ∧ P (.int (-n)) S1) : wp (eNeg a L S) P := by
  unfold eNeg; rw [wp_bind]; refine h.mono fun d S1 ⟨t, e, h1⟩ => ?_
  subst e; first | exact h1 | exact ⟨h1⟩ | exact (h1).mono fun _ _ k => ⟨k⟩
theorem r_aNil (k : PL [] S) : wp (aNil L S) PL := ⟨k⟩
theorem r_aCons (h : wp (m L S) fun d S1 => wp (mr L S1) fun ds S2 => PL (d :: ds) S2) : wp (aCons m mr L S) PL := by
  unfold aCons; rw [wp_bind]; refine h.mono fun x S1 h => ?_; rw [wp_bind]; first | exact h | exact ⟨h⟩ | exact (h).mono fun _ _ k => ⟨k⟩
theorem r_eTup (h : wp (ma L S) fun ds S1 => ds.length ≤ sizeLine ∧ P (.tup ds) S1) : wp (eTup ma L S) P := by
  unfold eTup; rw [wp_bind]; refine h.mono fun x S1 ⟨h1, h2⟩ => ?_; rw [if_pos h1]; first | exact h2 | exact ⟨h2⟩ | exact (h2).mono fun _ _ k => ⟨k⟩
theorem r_fLst (h : wp (ma L S) fun ds S1 => ds.length ≤ sizeLine ∧ PL ds S1) : wp (fLst ma L S) PL := by
  unfold fLst; rw [wp_bind]; refine h.mono fun x S1 ⟨h1, h2⟩ => ?_; rw [if_pos h1]; first | exact h2 | exact ⟨h2⟩ | exact (h2).mono fun _ _ k => ⟨k⟩
theorem r_eFz (h : wp (ma L S) fun ds S1 => P (.lst ds) S1) : wp (eFz ma L S) P := by
  unfold eFz; rw [wp_bind]; first | exact h | exact ⟨h⟩ | exact (h).mono fun _ _ k => ⟨k⟩
theorem r_eNw (h : wp (ma L S) fun ds S1 => P (.obj S1.length) (S1 ++ [.lst ds])) : wp (eNw ma L S) P := by
  unfold eNw; rw [wp_bind]; first | exact h | exact ⟨h⟩ | exact (h).mono fun _ _ k => ⟨k⟩
theorem r_eCall {o : List D → Option D} (h : wp (ma L S) fun ds S1 => ∃ z, o (ds.map (deref S1)) = some z ∧ P z S1) : wp (eCall o ma L S) P := by
  unfold eCall; rw [wp_bind]; exact h.mono fun ds S1 h => r_lift h
theorem r_fCall {o : List D → Option (List D)} (h : wp (ma L S) fun ds S1 => ∃ z, o (ds.map (deref S1)) = some z ∧ PL z S1) : wp (fCall o ma L S) PL := by
  unfold fCall; rw [wp_bind]; exact h.mono fun ds S1 h => r_lift h
theorem r_eFn {f : Fn} (h : wp (ma L S) fun ds S1 => wp (f ds S1) P) : wp (eFn f ma L S) P := by
  unfold eFn; rw [wp_bind]; first | exact h | exact ⟨h⟩ | exact (h).mono fun _ _ k => ⟨k⟩
theorem r_eM1 {o : List Nat → D → Option D} (h : wp (a L S) fun d S1 => ∃ x, d = .str x ∧ wp (b L S1) fun e S2 => ∃ z, o x (deref S2 e) = some z ∧ P z S2) : wp (eM1 o a b L S) P := by
  unfold eM1; rw [wp_bind]; refine h.mono fun d S1 ⟨t, e, h1⟩ => ?_
  subst e; dsimp only; rw [wp_bind]; exact h1.mono fun _ _ h => r_lift h
theorem r_eM0 {o : D → Option D} (h : wp (a L S) fun d S1 => ∃ z, o d = some z ∧ P z S1) : wp (eM0 o a L S) P := by
  unfold eM0; rw [wp_bind]; exact h.mono fun _ _ h => r_lift h
theorem r_oNo (k : PO none S) : wp (oNo L S) PO := ⟨k⟩
def optO : D → Option (Option Int)
  | .int i => some (some i)
  | .non => some none
  | _ => none
theorem r_oSo (h : wp (m L S) fun d S1 => ∃ o, optO d = some o ∧ PO o S1) : wp (oSo m L S) PO := by
  unfold oSo; rw [wp_bind]; refine h.mono fun d S1 ⟨t, e, h1⟩ => ?_
  unfold optO at e
  split at e <;> cases e <;> exact ⟨h1⟩
theorem r_eSl {ml mh : Ls → Sto → R (Option Int)} (h : wp (a L S) fun d S1 => wp (ml L S1) fun lo S2 => wp (mh L S2) fun hi S3 => ∃ z, oSl (deref S3 d) lo hi = some z ∧ P z S3) : wp (eSl a ml mh L S) P := by
  unfold eSl; rw [wp_bind]; refine h.mono fun x S1 h => ?_; rw [wp_bind]; refine h.mono fun y S2 h => ?_; rw [wp_bind]; exact h.mono fun _ _ h => r_lift h
theorem r_eInT {ng : Bool} {t : Tb} (h : wp (m L S) fun d S1 => ∃ z, d = .str z ∧ P (.bl (ng != (t.get z).isSome)) S1) : wp (eInT ng t m L S) P := by
  unfold eInT; rw [wp_bind]; refine h.mono fun d S1 ⟨t, e, h1⟩ => ?_
  subst e; first | exact h1 | exact ⟨h1⟩ | exact (h1).mono fun _ _ k => ⟨k⟩
theorem r_eIxT {t : Tb} (h : wp (m L S) fun d S1 => ∃ z, d = .str z ∧ ∃ r, t.get z = some r ∧ P r S1) : wp (eIxT t m L S) P := by
  unfold eIxT; rw [wp_bind]; refine h.mono fun d S1 ⟨t, e, h1⟩ => ?_
  subst e; exact r_lift h1
theorem r_tOfE (h : wp (m L S) fun d S1 => ∃ t, d = .bl t ∧ PB t S1) : wp (tOfE m L S) PB := by
  unfold tOfE; rw [wp_bind]; refine h.mono fun d S1 ⟨t, e, h1⟩ => ?_
  subst e; first | exact h1 | exact ⟨h1⟩ | exact (h1).mono fun _ _ k => ⟨k⟩
theorem r_tTr (h : wp (m L S) fun d S1 => ∃ t, truth (deref S1 d) = some t ∧ PB t S1) : wp (tTr m L S) PB := by
  unfold tTr; rw [wp_bind]; exact h.mono fun _ _ h => r_lift h
theorem r_tNt (h : wp (ta L S) fun t S1 => PB (!t) S1) : wp (tNt ta L S) PB := by
  unfold tNt; rw [wp_bind]; first | exact h | exact ⟨h⟩ | exact (h).mono fun _ _ k => ⟨k⟩
theorem r_tAn (h : wp (ta L S) fun t S1 => (t = true → wp (tb L S1) PB) ∧ (t = false → PB false S1)) : wp (tAn ta tb L S) PB := by
  unfold tAn; rw [wp_bind]; refine h.mono fun t S1 ⟨h1, h2⟩ => ?_
  cases t with
  | true => first | exact h1 rfl | exact ⟨h1 rfl⟩ | exact (h1 rfl).mono fun _ _ k => ⟨k⟩
  | false => first | exact h2 rfl | exact ⟨h2 rfl⟩ | exact (h2 rfl).mono fun _ _ k => ⟨k⟩
theorem r_tOo (h : wp (ta L S) fun t S1 => (t = true → PB true S1) ∧ (t = false → wp (tb L S1) PB)) : wp (tOo ta tb L S) PB := by
  unfold tOo; rw [wp_bind]; refine h.mono fun t S1 ⟨h1, h2⟩ => ?_
  cases t with
  | true => first | exact h1 rfl | exact ⟨h1 rfl⟩ | exact (h1 rfl).mono fun _ _ k => ⟨k⟩
  | false => first | exact h2 rfl | exact ⟨h2 rfl⟩ | exact (h2 rfl).mono fun _ _ k => ⟨k⟩
theorem r_tYs (k : PB true S) : wp (tYs L S) PB := ⟨k⟩
theorem r_iVal (h : wp (m L S) fun d S1 => ∃ s, srcOf S1 d = some s ∧ PR s S1) : wp (iVal m L S) PR := by
  unfold iVal; rw [wp_bind]; exact h.mono fun _ _ h => r_lift h
theorem r_iArS {o : Sto → List D → Option Src} (h : wp (ma L S) fun ds S1 => ∃ s, o S1 ds = some s ∧ PR s S1) : wp (iArS o ma L S) PR := by
  unfold iArS; rw [wp_bind]; exact h.mono fun _ _ h => r_lift h
theorem r_iArgs {o : List D → Option Src} (h : wp (ma L S) fun ds S1 => ∃ s, o ds = some s ∧ PR s S1) : wp (iArgs o ma L S) PR := by
  unfold iArgs; rw [wp_bind]; exact h.mono fun _ _ h => r_lift h
theorem r_fLc {mi : Ls → Sto → R Src} {own : List Nat} {t : Tg} (h : wp (mi L S) fun src S1 => wp (lcLoop src.2 src.1 t ta m (wipeL L own) src.1 S1 []) PL) : wp (fLc mi own t ta m L S) PL := by
  unfold fLc; rw [wp_bind]; first | exact h | exact ⟨h⟩ | exact (h).mono fun _ _ k => ⟨k⟩
theorem q_nil (k : PS .nx L S) : wps (sNil L S) PS := ⟨k⟩
theorem q_brk (k : PS .bk L S) : wps (sBrk L S) PS := ⟨k⟩
theorem q_cnt (k : PS .ct L S) : wps (sCnt L S) PS := ⟨k⟩
theorem q_retN (k : PS (.rt .non) L S) : wps (sRetN L S) PS := ⟨k⟩
theorem q_seq (h : wps (sa L S) fun fl L1 S1 => match fl with
    | .nx => wps (sb L1 S1) PS
    | fl => PS fl L1 S1) : wps (sSeq sa sb L S) PS := by unfold sSeq; rw [wps_seq]; first | exact h | exact ⟨h⟩ | exact (h).mono fun _ _ k => ⟨k⟩
theorem q_ret (h : wp (m L S) fun d S1 => PS (.rt d) L S1) : wps (sRet m L S) PS := by unfold sRet; rw [wps_st]; first | exact h | exact ⟨h⟩ | exact (h).mono fun _ _ k => ⟨k⟩
theorem q_drop (h : wp (m L S) fun d S1 => PS .nx L S1) : wps (sDrop m L S) PS := by unfold sDrop; rw [wps_st]; first | exact h | exact ⟨h⟩ | exact (h).mono fun _ _ k => ⟨k⟩
theorem q_set (h : wp (m L S) fun d S1 => PS .nx (L.set i (.v d)) S1) : wps (sSet i m L S) PS := by unfold sSet; rw [wps_st]; first | exact h | exact ⟨h⟩ | exact (h).mono fun _ _ k => ⟨k⟩
theorem q_own (h : wp (ma L S) fun ds S1 => PS .nx (L.set i (.o (.lst ds))) S1) : wps (sOwn i ma L S) PS := by unfold sOwn; rw [wps_st]; first | exact h | exact ⟨h⟩ | exact (h).mono fun _ _ k => ⟨k⟩
theorem q_frz (h : L[i]? = some (.o (.lst ds))) (k : wps (sa (L.set i (.v (.lst ds))) S) PS) : wps (sFrz i sa L S) PS := by unfold sFrz; rw [h]; first | exact k | exact ⟨k⟩ | exact (k).mono fun _ _ k => ⟨k⟩
theorem q_frzV (h : L[i]? = some (.v d)) (k : wps (sa L S) PS) : wps (sFrz i sa L S) PS := by unfold sFrz; rw [h]; first | exact k | exact ⟨k⟩ | exact (k).mono fun _ _ k => ⟨k⟩
theorem q_tg {t : Tg} (h : wp (m L S) fun d S1 => ∃ L1, tgA t d L = some L1 ∧ PS .nx L1 S1) : wps (sTg t m L S) PS := by
  unfold sTg; rw [wps_st]; refine h.mono fun d S1 ⟨L1, e, h⟩ => ?_; rw [e]; first | exact h | exact ⟨h⟩ | exact (h).mono fun _ _ k => ⟨k⟩
theorem q_par2 (h : wp (ma L S) fun ds S1 => ∃ x y, ds = [x, y] ∧ PS .nx ((L.set i (.v x)).set j (.v y)) S1) : wps (sPar2 i j ma L S) PS := by
  unfold sPar2; rw [wps_st]; refine h.mono fun d S1 ⟨x, y, e, h⟩ => ?_; subst e; first | exact h | exact ⟨h⟩ | exact (h).mono fun _ _ k => ⟨k⟩
theorem q_par3 (h : wp (ma L S) fun ds S1 => ∃ x y z, ds = [x, y, z] ∧ PS .nx (((L.set i (.v x)).set j (.v y)).set l (.v z)) S1) : wps (sPar3 i j l ma L S) PS := by
  unfold sPar3; rw [wps_st]; refine h.mono fun d S1 ⟨x, y, z, e, h⟩ => ?_; subst e; first | exact h | exact ⟨h⟩ | exact (h).mono fun _ _ k => ⟨k⟩
theorem q_if (h : wp (ta L S) fun t S1 => (t = true → wps (sa L S1) PS) ∧ (t = false → wps (sb L S1) PS)) : wps (sIf ta sa sb L S) PS := by
  unfold sIf; rw [wps_st]; refine h.mono fun t S1 ⟨h1, h2⟩ => ?_
  cases t with
  | true => first | exact h1 rfl | exact ⟨h1 rfl⟩ | exact (h1 rfl).mono fun _ _ k => ⟨k⟩
  | false => first | exact h2 rfl | exact ⟨h2 rfl⟩ | exact (h2 rfl).mono fun _ _ k => ⟨k⟩
theorem q_app (h : L[i]? = some (.o (.lst ds))) (k : wp (m L S) fun d S1 => ds.length < sizeLine ∧ PS .nx (L.set i (.o (.lst (ds ++ [d])))) S1) : wps (sApp i m L S) PS := by
  unfold sApp; rw [h]; dsimp only; rw [wps_st]; refine k.mono fun d S1 ⟨h1, h2⟩ => ?_; rw [if_pos h1]; first | exact h2 | exact ⟨h2⟩ | exact (h2).mono fun _ _ k => ⟨k⟩
theorem q_putO (h : wp (c L S) fun d S1 => wp (a L S1) fun o S2 => ∃ n, o = .obj n ∧ wp (b L S2) fun j S3 => ∃ k ds jj, j = .int k ∧ S3[n]? = some (.lst ds) ∧ ixN ds.length k = some jj ∧ PS .nx L (S3.set n (.lst (ds.set jj d)))) : wps (sPutO a b c L S) PS := by
  unfold sPutO; rw [wps_st]; refine h.mono fun d S1 h => ?_; rw [wps_st]; refine h.mono fun o S2 ⟨n, e, h⟩ => ?_
  subst e; dsimp only; rw [wps_st]; refine h.mono fun j S3 ⟨k, ds, jj, e1, e2, e3, h⟩ => ?_
  subst e1; dsimp only; rw [e2]; dsimp only; rw [e3]; first | exact h | exact ⟨h⟩ | exact (h).mono fun _ _ k => ⟨k⟩
theorem q_put (h : wp (b L S) fun d S1 => ∃ ds, L[i]? = some (.o (.lst ds)) ∧ wp (a L S1) fun j S2 => ∃ k jj, j = .int k ∧ ixN ds.length k = some jj ∧ PS .nx (L.set i (.o (.lst (ds.set jj d)))) S2) : wps (sPut i a b L S) PS := by
  unfold sPut; rw [wps_st]; refine h.mono fun d S1 ⟨ds, e, h⟩ => ?_
  rw [e]; dsimp only; rw [wps_st]; refine h.mono fun j S3 ⟨k, jj, e1, e3, h⟩ => ?_
  subst e1; dsimp only; rw [e3]; first | exact h | exact ⟨h⟩ | exact (h).mono fun _ _ k => ⟨k⟩
theorem q_aug {o : D → D → Option D} (h : L[i]? = some (.v d)) (k : wp (m L S) fun y S1 => ∃ z, o (deref S1 d) (deref S1 y) = some z ∧ PS .nx (L.set i (.v z)) S1) : wps (sAug i o m L S) PS := by
  unfold sAug; rw [h]; dsimp only; rw [wps_st]; refine k.mono fun d S1 ⟨z, e, h⟩ => ?_; rw [e]; first | exact h | exact ⟨h⟩ | exact (h).mono fun _ _ k => ⟨k⟩
theorem q_for {mi : Ls → Sto → R Src} {t : Tg} (h : wp (mi L S) fun src S1 => wps (forL src.2 src.1 t sa src.1 L S1) PS) : wps (sFor mi t sa L S) PS := by
  unfold sFor; rw [wps_st]; first | exact h | exact ⟨h⟩ | exact (h).mono fun _ _ k => ⟨k⟩
theorem q_fn {n np : Nat} {P : D → Sto → Prop} {ds : List D} (hl : ds.length = np) (h : wps (sa (ds.map .v ++ List.replicate (n - np) .un) S) fun fl _ S1 => match fl with
    | .nx => P .non S1
    | .rt d => P d S1
    | _ => False) : wp (fnSem n np sa ds S) P := by
  unfold fnSem; rw [if_pos hl]; exact wp_end h
end
noncomputable def m_draw1 : SM := sSeq (sPutO (eVar 0) (eC (.int 1)) (eBin oAdd (eBin oIx (pVar 0) (eC (.int 1))) (eC (.int 1)))) (sSeq (sSet 2 (eBin oMod (eCall bInt (aCons (eBin oIx (pVar 0) (eC (.int 1))) (aNil))) (eCall bMax2 (aCons (eC (.int 1)) (aCons (eCall bLen (aCons (eBin oIx (pVar 0) (eC (.int 0))) (aNil))) (aNil)))))) (sSeq (sSet 3 (eBin oIx (eBin oAdd (eBin oIx (pVar 0) (eC (.int 0))) (eFz (fLst (aCons (eC (.int 0)) (aNil))))) (pVar 2))) (sSeq (sIf (tOfE (eBin cGe (pVar 3) (eBin oPow (eC (.int 10)) (eC (.int 18))))) (sSeq (sPutO (eBin oIx (pVar 0) (eC (.int 0))) (eVar 2) (eBin oFdiv (pVar 3) (pVar 1))) (sSeq (sRet (eBin oMod (eCall bInt (aCons (pVar 3) (aNil))) (pVar 1))) (sNil))) (sNil)) (sSeq (sSet 4 (eBin oPow (eBin oAdd (eBin oAdd (eBin oMod (eCall bInt (aCons (pVar 3) (aNil))) (eC (.int 2147483587))) (eBin oMul (eC (.int 7919)) (eBin oIx (pVar 0) (eC (.int 1))))) (eC (.int 1))) (eC (.int 5)))) (sSeq (sRet (eBin oMod (eCall bInt (aCons (eBin oMod (eCall bInt (aCons (pVar 4) (aNil))) (eC (.int 2147483647))) (aNil))) (pVar 1))) (sNil))))))
noncomputable def c_draw1 : Fn := fnSem 5 2 m_draw1
theorem atI_some {α : Type} {xs : List α} {i : Nat} {a : α} (h : xs[i]? = some a) : L2.atI xs (i : Int) = some a := by
  unfold L2.atI ixN
  have hl : i < xs.length := (List.getElem?_eq_some_iff.mp h).1
  rw [if_pos (Int.natCast_nonneg i), if_pos (by omega)]
  exact h
theorem r_dec {p : Prop} [Decidable p] {A B : Prop} (h1 : p → A) (h2 : ¬ p → B) : (decide p = true → A) ∧ (decide p = false → B) := ⟨fun h => h1 (of_decide_eq_true h), fun h => h2 (of_decide_eq_false h)⟩
theorem r_isT {t : Bool} {A B : Prop} (h : t = true) (k : A) : (t = true → A) ∧ (t = false → B) := ⟨fun _ => k, fun z => Bool.noConfusion (h.symm.trans z)⟩
theorem r_isF {t : Bool} {A B : Prop} (h : t = false) (k : B) : (t = true → A) ∧ (t = false → B) := ⟨fun z => Bool.noConfusion (h.symm.trans z), fun _ => k⟩
theorem x_addi {a b : Int} : oAdd (.int a) (.int b) = some (.int (a + b)) := rfl
theorem x_adds {a b : List Nat} (h : a.length + b.length ≤ sizeLine) : oAdd (.str a) (.str b) = some (.str (a ++ b)) := if_pos h
theorem x_addt {a b : List D} (h : a.length + b.length ≤ sizeLine) : oAdd (.tup a) (.tup b) = some (.tup (a ++ b)) := if_pos h
theorem x_addl {a b : List D} (h : a.length + b.length ≤ sizeLine) : oAdd (.lst a) (.lst b) = some (.lst (a ++ b)) := if_pos h
theorem x_subi {a b : Int} : oSub (.int a) (.int b) = some (.int (a - b)) := rfl
theorem x_muli {a b : Int} (h : a.natAbs.log2 + b.natAbs.log2 < 1000000) : oMul (.int a) (.int b) = some (.int (a * b)) := if_pos h
theorem x_div {a b : Int} (h : 0 < b ∧ b.natAbs.log2 < 9000) : oFdiv (.int a) (.int b) = some (.int (a / b)) := if_pos h
theorem x_mod {a b : Int} (h : 0 < b) : oMod (.int a) (.int b) = some (.int (a % b)) := if_pos h
theorem x_pow {a b : Int} (h : 0 ≤ b ∧ b ≤ 1000000 ∧ a.natAbs < 2 ^ 64) : oPow (.int a) (.int b) = some (.int (a ^ b.toNat)) := if_pos h
theorem x_eqi {a b : Int} : cEq (.int a) (.int b) = some (.bl (decide (a = b))) := rfl
theorem x_nei {a b : Int} : cNe (.int a) (.int b) = some (.bl (decide (a ≠ b))) := by
  by_cases h : a = b
  · subst h; simp [cNe, eqB, flatEq]
  · simp [cNe, eqB, flatEq, h]
theorem x_lti {a b : Int} : cLt (.int a) (.int b) = some (.bl (decide (a < b))) := rfl
theorem x_lei {a b : Int} : cLe (.int a) (.int b) = some (.bl (decide (a ≤ b))) := rfl
theorem x_gti {a b : Int} : cGt (.int a) (.int b) = some (.bl (decide (b < a))) := rfl
theorem x_gei {a b : Int} : cGe (.int a) (.int b) = some (.bl (decide (b ≤ a))) := rfl
theorem x_eqs {a b : List Nat} : cEq (.str a) (.str b) = some (.bl (decide (a = b))) := by
  by_cases h : a = b
  · subst h; simp [cEq, eqB, flatEq]
  · simp [cEq, eqB, flatEq, h]
theorem x_nes {a b : List Nat} : cNe (.str a) (.str b) = some (.bl (decide (a ≠ b))) := by
  by_cases h : a = b
  · subst h; simp [cNe, eqB, flatEq]
  · simp [cNe, eqB, flatEq, h]
local macro_rules | `(tactic| walk_at "rf") => `(tactic| first
  | with_reducible refine q_seq ?_ | with_reducible refine q_nil ?_ | with_reducible refine q_set ?_ | with_reducible refine q_ret ?_ | with_reducible refine q_if ?_ | with_reducible refine q_retN ?_ | with_reducible refine q_drop ?_ | with_reducible refine q_tg ?_ | with_reducible refine q_par2 ?_ | with_reducible refine q_par3 ?_ | with_reducible refine q_own ?_ | ((with_reducible apply q_frz); exact rfl) | ((with_reducible apply q_frzV); exact rfl) | ((with_reducible apply q_app); exact rfl) | with_reducible refine q_putO ?_ | with_reducible refine q_put ?_ | ((with_reducible apply q_aug); exact rfl) | with_reducible refine q_brk ?_ | with_reducible refine q_cnt ?_
  | ((with_reducible apply r_pVar); exact rfl) | ((with_reducible apply r_eVar); exact rfl) | ((with_reducible apply r_pOwn); exact rfl) | with_reducible refine r_eC ?_ | with_reducible refine r_eBin ?_ | with_reducible refine r_eCall ?_ | with_reducible refine r_aCons ?_ | with_reducible refine r_aNil ?_ | with_reducible refine r_eFn ?_ | with_reducible refine r_tOfE ?_ | with_reducible refine r_tTr ?_ | with_reducible refine r_tNt ?_ | with_reducible refine r_tAn ?_ | with_reducible refine r_tOo ?_ | with_reducible refine r_tYs ?_
  | with_reducible refine r_eTup ?_ | with_reducible refine r_fLst ?_ | with_reducible refine r_eFz ?_ | with_reducible refine r_eNw ?_ | with_reducible refine r_eIf ?_ | with_reducible refine r_eAn ?_ | with_reducible refine r_eOo ?_ | with_reducible refine r_eNt ?_ | with_reducible refine r_eNeg ?_ | with_reducible refine r_eCh ?_ | with_reducible refine r_eSl ?_ | with_reducible refine r_oNo ?_ | with_reducible refine r_oSo ?_ | with_reducible refine r_eM0 ?_ | with_reducible refine r_eM1 ?_ | with_reducible refine r_eInT ?_ | with_reducible refine r_eIxT ?_ | with_reducible refine r_fCall ?_
  | with_reducible refine r_ok ?_ | with_reducible refine r_okL ?_ 
  | with_reducible refine ⟨_, x_addi, ?_⟩ | with_reducible refine ⟨_, x_subi, ?_⟩ | with_reducible refine ⟨_, x_eqi, ?_⟩ | with_reducible refine ⟨_, x_lti, ?_⟩ | with_reducible refine ⟨_, x_lei, ?_⟩ | with_reducible refine ⟨_, x_gti, ?_⟩ | with_reducible refine ⟨_, x_gei, ?_⟩ | with_reducible refine ⟨_, x_nei, ?_⟩ | with_reducible refine ⟨_, x_eqs, ?_⟩ | with_reducible refine ⟨_, x_nes, ?_⟩
  | with_reducible refine ⟨_, x_muli (by first | assumption | decide), ?_⟩ | with_reducible refine ⟨_, x_mod (by first | assumption | decide | omega), ?_⟩ | with_reducible refine ⟨_, x_pow (by first | assumption | decide), ?_⟩ | with_reducible refine ⟨_, x_div (by first | assumption | decide), ?_⟩
  | (fail_if_success (with_reducible refine ⟨_, x_muli ?_, ?_⟩)
     fail_if_success (with_reducible refine ⟨_, x_mod ?_, ?_⟩)
     fail_if_success (with_reducible refine ⟨_, x_pow ?_, ?_⟩)
     fail_if_success (with_reducible refine ⟨_, x_div ?_, ?_⟩)
     fail_if_success (with_reducible refine ⟨_, x_adds ?_, ?_⟩)
     fail_if_success (with_reducible refine ⟨_, x_addt ?_, ?_⟩)
     fail_if_success (with_reducible refine ⟨_, x_addl ?_, ?_⟩)
     (with_reducible apply Exists.intro)
     (repeat (with_reducible apply Exists.intro))
     refine And.intro rfl ?_)
  | ((with_reducible refine And.intro ?_ ?_); exact rfl)
  | ((with_reducible refine And.intro ?_ ?_); exact Nat.le_of_ble_eq_true rfl))
theorem draw1 {T S : Sto} {n : Nat} {many : Int} (h : Deck T (n + 1) S) (h0 : 0 < many) (hm : many.natAbs.log2 < 9000) : ∃ (r : Int) (S' : Sto), c_draw1 [.obj 1, .int many] S = .ok (.int r) S' ∧ 0 ≤ r ∧ r < many ∧ Deck T n S' := by
  obtain ⟨cs, c, rfl, hcs, hc, hcn, hlen⟩ := h
  have hlz : cs.length ≤ sizeLine := Nat.le_trans hlen (by decide)
  -- the place and the cell
  obtain ⟨p, hp⟩ : ∃ p : Nat, (p : Int) = (c + 1) % (if (cs.length : Int) > 1 then (cs.length : Int) else 1) := by
    have : 0 ≤ (c + 1) % (if (cs.length : Int) > 1 then (cs.length : Int) else 1) := Int.emod_nonneg _ (by split <;> omega)
    exact ⟨((c + 1) % (if (cs.length : Int) > 1 then (cs.length : Int) else 1)).toNat, by omega⟩
  have hp2 : (p : Int) < (if (cs.length : Int) > 1 then (cs.length : Int) else 1) := by
    rw [hp]; exact Int.emod_lt_of_pos _ (by split <;> omega)
  have hpl : p < cs.length + 1 := by split at hp2 <;> omega
  obtain ⟨x, hx⟩ : ∃ x : Int, (cs ++ [0])[p]? = some x := ⟨_, List.getElem?_eq_getElem (by rw [List.length_append, List.length_singleton]; exact hpl)⟩
  have hx0 : 0 ≤ x := by
    have := List.mem_of_getElem? hx
    rcases List.mem_append.mp this with z | z
    · exact hcs x z
    · rw [List.mem_singleton.mp z]; exact Int.le_refl _
  have hxD : (cs.map D.int ++ [D.int 0])[p]? = some (.int x) := by
    have : cs.map D.int ++ [D.int 0] = (cs ++ [0]).map D.int := by rw [List.map_append]; rfl
    rw [this, List.getElem?_map, hx]; rfl
  have hix := atI_some hxD
  have h18 : (0:Int) < 10 ^ 18 := by decide
  suffices h : wp (c_draw1 [.obj 1, .int many] (.lst (cs.map .int) :: .lst [.obj 0, .int c] :: T)) fun d S' => ∃ r, d = .int r ∧ 0 ≤ r ∧ r < many ∧ Deck T n S' by
    obtain ⟨d, S', e, r, rfl, h⟩ := h.ex
    exact ⟨r, S', e, h⟩
  unfold c_draw1
  refine q_fn rfl ?_
  unfold m_draw1
  have hlm : (cs.map D.int).length = cs.length := List.length_map _
  rw [← hlm] at hp hp2
  repeat walk_at "rf"
  refine ⟨.lst (cs.map D.int ++ [D.int 0]), if_pos (by
    show (cs.map D.int).length + 1 ≤ sizeLine
    rw [List.length_map]
    have : 64 ≤ sizeLine := by decide
    omega), ?_⟩
  repeat walk_at "rf"
  refine ⟨.int x, by rw [← hp]; exact hix, ?_⟩
  repeat walk_at "rf"
  refine ⟨fun ht => ?_, fun ht => ?_⟩
  · have hge : (10:Int) ^ 18 ≤ x := of_decide_eq_true ht
    have hp3 : p < cs.length := by
      rcases Nat.lt_or_ge p cs.length with z | z
      · exact z
      · rw [List.getElem?_append_right z] at hx
        have : p - cs.length = 0 := by omega
        rw [this] at hx
        cases hx
        omega
    have hdv : 0 < many ∧ many.natAbs.log2 < 9000 := ⟨h0, hm⟩
    repeat walk_at "rf"
    have hix2 : ixN (cs.map D.int).length ((c + 1) % (if ((cs.map D.int).length : Int) > 1 then ((cs.map D.int).length : Int) else 1)) = some p := by
      unfold ixN
      rw [← hp, if_pos (Int.natCast_nonneg p), if_pos (by rw [List.length_map]; omega)]
      rfl
    refine ⟨hix2, ?_⟩
    repeat walk_at "rf"
    refine ⟨Int.emod_nonneg _ (by omega), Int.emod_lt_of_pos _ h0, ?_⟩
    refine ⟨cs.set p (x / many), c + 1, ?_, fun y hy => ?_, by omega, by omega, by rw [List.length_set]; exact hlen⟩
    · rw [List.map_set]; rfl
    · rcases List.mem_or_eq_of_mem_set hy with z | z
      · exact hcs y z
      · rw [z]; exact Int.ediv_nonneg hx0 (by omega)
  · have hm0 : 0 ≤ x % 2147483587 := Int.emod_nonneg _ (by decide)
    have hm1 : x % 2147483587 < 2147483587 := Int.emod_lt_of_pos _ (by decide)
    have hb : (0:Int) ≤ 5 ∧ (5:Int) ≤ 1000000 ∧ (x % 2147483587 + 7919 * (c + 1) + 1).natAbs < 2 ^ 64 := ⟨by decide, by decide, by omega⟩
    have hl : (7919 : Int).natAbs.log2 + (c + 1).natAbs.log2 < 1000000 := by
      have h1 : (c + 1).natAbs < 2 ^ 41 := by omega
      have h2 : (c + 1).natAbs.log2 < 41 := (Nat.log2_lt (by omega)).mpr h1
      have h3 : (7919 : Int).natAbs.log2 = 12 := by decide
      omega
    repeat walk_at "rf"
    exact ⟨Int.emod_nonneg _ (by omega), Int.emod_lt_of_pos _ h0, cs, c + 1, rfl, hcs, by omega, by omega, hlen⟩
noncomputable def m_one : SM := sSeq (sRet (eBin oIx (pVar 1) (eFn c_draw1 (aCons (eVar 0) (aCons (eCall bLen (aCons (pVar 1) (aNil))) (aNil)))))) (sNil)
noncomputable def c_one : Fn := fnSem 2 2 m_one
section
variable {T S : Sto} {n : Nat} {P : D → Sto → Prop}
theorem w_draw {many : Int} (h : Deck T (n + 1) S) (h0 : 0 < many) (hm : many.natAbs.log2 < 9000) (k : ∀ (r : Int) (S' : Sto), 0 ≤ r → r < many → Deck T n S' → P (.int r) S') : wp (c_draw1 [.obj 1, .int many] S) P := by
  obtain ⟨r, S', e, h1, h2, h3⟩ := draw1 h h0 hm
  rw [e]
  exact ⟨k r S' h1 h2 h3⟩
theorem w_one {xs : List D} (h : Deck T (n + 1) S) (h0 : xs ≠ []) (hz : xs.length < 2 ^ 40) (k : ∀ (x : D) (S' : Sto), x ∈ xs → Deck T n S' → P x S') : wp (c_one [.obj 1, .lst xs] S) P := by
  unfold c_one
  refine q_fn rfl ?_
  unfold m_one
  have hl : 0 < xs.length := List.length_pos_iff.mpr h0
  repeat walk_at "rf"
  refine w_draw h (by omega) ?_ fun r S' h1 h2 h3 => ?_
  · have : ((xs.length : Int)).natAbs = xs.length := rfl
    rw [this]
    have := (Nat.log2_lt (by omega)).mpr hz
    omega
  · obtain ⟨j, rfl⟩ := Int.eq_ofNat_of_zero_le h1
    have hj : j < xs.length := by omega
    refine ⟨xs[j], atI_some (List.getElem?_eq_getElem hj), ?_⟩
    exact k _ _ (List.getElem_mem hj) h3
end
theorem lg {n k : Nat} (h : n < 2 ^ k) (hk : 0 < k) : n.log2 < k := by
  by_cases z : n = 0
  · rw [z]; exact hk
  · exact (Nat.log2_lt z).mpr h
theorem lgi {i : Int} {k : Nat} (h : i.natAbs < 2 ^ k) (hk : 0 < k) : i.natAbs.log2 < k := lg h hk
end Rf
set_option Elab.async false
set_option linter.all false
set_option maxRecDepth 100000
set_option maxHeartbeats 0
namespace Rf
open PySem L2 TL
class Wp [xp : ExP] {α : Type} (m : R α) (P : α → Sto → Prop) (G : outParam Prop) : Prop where
  imp : G → wp m P
class Ws [xp : ExP] (m : RS) (P : Fl → Ls → Sto → Prop) (G : outParam Prop) : Prop where
  imp : G → wps m P
/-- an operation at known kinds -/
class Op (e : Option D) (z : outParam D) : Prop where
  eq : e = some z
/-- .. under a condition -/
class Og (e : Option D) (z : outParam D) (c : outParam Prop) : Prop where
  eq : c → e = some z
variable {xp : ExP}
section
variable {P : D → Sto → Prop} {PL : List D → Sto → Prop} {PB : Bool → Sto → Prop} {PO : Option Int → Sto → Prop} {PS : Fl → Ls → Sto → Prop} {PR : Src → Sto → Prop} {L : Ls} {S : Sto} {i j l : Nat} {d : D} {ds : List D} {a b c m : EM} {ma mr : Ls → Sto → R (List D)} {ta tb : Ls → Sto → R Bool} {sa sb : SM}
  {o o' : D → D → Option D} {oL : List D → Option D} {oF : List D → Option (List D)} {f : Fn} {o1 : List Nat → D → Option D} {o0 : D → Option D} {ml mh : Ls → Sto → R (Option Int)} {ng : Bool} {t : Tb} {tg : Tg} {own : List Nat} {mi : Ls → Sto → R Src} {oS : List D → Option Src}
theorem v_pVar (h : ∃ v, L[i]? = some v ∧ match v with
    | .v d => P d S
    | .o (.lst ds) => P (.lst ds) S
    | _ => False) : wp (pVar i L S) P := by
  obtain ⟨v, e, h⟩ := h
  cases v with
  | v d => exact r_pVar e h
  | o u => cases u with
    | lst ds => exact r_pOwn e h
    | _ => exact h.elim
  | un => exact h.elim
  | exc x => exact h.elim
theorem v_eVar (h : ∃ d, L[i]? = some (.v d) ∧ P d S) : wp (eVar i L S) P := by obtain ⟨d, e, h⟩ := h; exact r_eVar e h
theorem v_frz (h : ∃ v, L[i]? = some v ∧ match v with
    | .v _ => wps (sa L S) PS
    | .o (.lst ds) => wps (sa (L.set i (.v (.lst ds))) S) PS
    | _ => False) : wps (sFrz i sa L S) PS := by
  obtain ⟨v, e, h⟩ := h
  cases v with
  | v d => exact q_frzV e h
  | o u => cases u with
    | lst ds => exact q_frz e h
    | _ => exact h.elim
  | un => exact h.elim
  | exc x => exact h.elim
theorem v_app (h : ∃ ds, L[i]? = some (.o (.lst ds)) ∧ wp (m L S) fun d S1 => ds.length < sizeLine ∧ PS .nx (L.set i (.o (.lst (ds ++ [d])))) S1) : wps (sApp i m L S) PS := by obtain ⟨d, e, h⟩ := h; exact q_app e h
theorem v_aug (h : ∃ d, L[i]? = some (.v d) ∧ wp (m L S) fun y S1 => ∃ z, o (deref S1 d) (deref S1 y) = some z ∧ PS .nx (L.set i (.v z)) S1) : wps (sAug i o m L S) PS := by obtain ⟨d, e, h⟩ := h; exact q_aug e h
instance : Wp (eVar i L S) P (∃ d, L[i]? = some (.v d) ∧ P d S) := ⟨v_eVar⟩
instance : Wp (pVar i L S) P (∃ v, L[i]? = some v ∧ match v with
    | .v d => P d S
    | .o (.lst ds) => P (.lst ds) S
    | _ => False) := ⟨v_pVar⟩
instance : Wp (.ok d S) P (P d S) := ⟨r_ok⟩
instance : Wp (.ok ds S) PL (PL ds S) := ⟨r_okL⟩
instance : Wp (eC d L S) P (P d S) := ⟨r_eC⟩
instance {o : D → D → Option D} : Wp (eBin o a b L S) P (wp (a L S) fun x S1 => wp (b L S1) fun y S2 => ∃ z, o (deref S2 x) (deref S2 y) = some z ∧ P z S2) := ⟨r_eBin⟩
instance {o o' : D → D → Option D} : Wp (eCh o o' a b c L S) P (wp (a L S) fun x S1 => wp (b L S1) fun y S2 => ∃ t, o (deref S2 x) (deref S2 y) = some (.bl t) ∧ (t = true → wp (c L S2) fun z S3 => ∃ w, o' (deref S3 y) (deref S3 z) = some w ∧ P w S3) ∧ (t = false → P (.bl false) S2)) := ⟨r_eCh⟩
instance : Wp (eAn a b L S) P (wp (a L S) fun d S1 => ∃ t, d = .bl t ∧ (t = true → wp (b L S1) P) ∧ (t = false → P (.bl false) S1)) := ⟨r_eAn⟩
instance : Wp (eOo a b L S) P (wp (a L S) fun d S1 => ∃ t, d = .bl t ∧ (t = true → P (.bl true) S1) ∧ (t = false → wp (b L S1) P)) := ⟨r_eOo⟩
instance : Wp (eNt a L S) P (wp (a L S) fun d S1 => ∃ t, d = .bl t ∧ P (.bl (!t)) S1) := ⟨r_eNt⟩
instance : Wp (eIf ta a b L S) P (wp (ta L S) fun t S1 => (t = true → wp (a L S1) P) ∧ (t = false → wp (b L S1) P)) := ⟨r_eIf⟩
instance : Wp (eNeg a L S) P (wp (a L S) fun d S1 => ∃ n, d = .int n ∧ P (.int (-n)) S1) := ⟨r_eNeg⟩
instance : Wp (aNil L S) PL (PL [] S) := ⟨r_aNil⟩
instance : Wp (aCons m mr L S) PL (wp (m L S) fun d S1 => wp (mr L S1) fun ds S2 => PL (d :: ds) S2) := ⟨r_aCons⟩
instance : Wp (eTup ma L S) P (wp (ma L S) fun ds S1 => ds.length ≤ sizeLine ∧ P (.tup ds) S1) := ⟨r_eTup⟩
instance : Wp (fLst ma L S) PL (wp (ma L S) fun ds S1 => ds.length ≤ sizeLine ∧ PL ds S1) := ⟨r_fLst⟩
instance : Wp (eFz ma L S) P (wp (ma L S) fun ds S1 => P (.lst ds) S1) := ⟨r_eFz⟩
instance : Wp (eNw ma L S) P (wp (ma L S) fun ds S1 => P (.obj S1.length) (S1 ++ [.lst ds])) := ⟨r_eNw⟩
instance {o : List D → Option D} : Wp (eCall o ma L S) P (wp (ma L S) fun ds S1 => ∃ z, o (ds.map (deref S1)) = some z ∧ P z S1) := ⟨r_eCall⟩
instance {o : List D → Option (List D)} : Wp (fCall o ma L S) PL (wp (ma L S) fun ds S1 => ∃ z, o (ds.map (deref S1)) = some z ∧ PL z S1) := ⟨r_fCall⟩
instance {f : Fn} : Wp (eFn f ma L S) P (wp (ma L S) fun ds S1 => wp (f ds S1) P) := ⟨r_eFn⟩
instance {o : List Nat → D → Option D} : Wp (eM1 o a b L S) P (wp (a L S) fun d S1 => ∃ x, d = .str x ∧ wp (b L S1) fun e S2 => ∃ z, o x (deref S2 e) = some z ∧ P z S2) := ⟨r_eM1⟩
instance {o : D → Option D} : Wp (eM0 o a L S) P (wp (a L S) fun d S1 => ∃ z, o d = some z ∧ P z S1) := ⟨r_eM0⟩
instance : Wp (oNo L S) PO (PO none S) := ⟨r_oNo⟩
instance : Wp (oSo m L S) PO (wp (m L S) fun d S1 => ∃ o, optO d = some o ∧ PO o S1) := ⟨r_oSo⟩
instance {ml mh : Ls → Sto → R (Option Int)} : Wp (eSl a ml mh L S) P (wp (a L S) fun d S1 => wp (ml L S1) fun lo S2 => wp (mh L S2) fun hi S3 => ∃ z, oSl (deref S3 d) lo hi = some z ∧ P z S3) := ⟨r_eSl⟩
instance {ng : Bool} {t : Tb} : Wp (eInT ng t m L S) P (wp (m L S) fun d S1 => ∃ z, d = .str z ∧ P (.bl (ng != (t.get z).isSome)) S1) := ⟨r_eInT⟩
instance {t : Tb} : Wp (eIxT t m L S) P (wp (m L S) fun d S1 => ∃ z, d = .str z ∧ ∃ r, t.get z = some r ∧ P r S1) := ⟨r_eIxT⟩
instance : Wp (tOfE m L S) PB (wp (m L S) fun d S1 => ∃ t, d = .bl t ∧ PB t S1) := ⟨r_tOfE⟩
instance : Wp (tTr m L S) PB (wp (m L S) fun d S1 => ∃ t, truth (deref S1 d) = some t ∧ PB t S1) := ⟨r_tTr⟩
instance : Wp (tNt ta L S) PB (wp (ta L S) fun t S1 => PB (!t) S1) := ⟨r_tNt⟩
instance : Wp (tAn ta tb L S) PB (wp (ta L S) fun t S1 => (t = true → wp (tb L S1) PB) ∧ (t = false → PB false S1)) := ⟨r_tAn⟩
instance : Wp (tOo ta tb L S) PB (wp (ta L S) fun t S1 => (t = true → PB true S1) ∧ (t = false → wp (tb L S1) PB)) := ⟨r_tOo⟩
instance : Wp (tYs L S) PB (PB true S) := ⟨r_tYs⟩
instance : Wp (iVal m L S) PR (wp (m L S) fun d S1 => ∃ s, srcOf S1 d = some s ∧ PR s S1) := ⟨r_iVal⟩
instance {o : Sto → List D → Option Src} : Wp (iArS o ma L S) PR (wp (ma L S) fun ds S1 => ∃ s, o S1 ds = some s ∧ PR s S1) := ⟨r_iArS⟩
instance {o : List D → Option Src} : Wp (iArgs o ma L S) PR (wp (ma L S) fun ds S1 => ∃ s, o ds = some s ∧ PR s S1) := ⟨r_iArgs⟩
instance {mi : Ls → Sto → R Src} {own : List Nat} {t : Tg} : Wp (fLc mi own t ta m L S) PL (wp (mi L S) fun src S1 => wp (lcLoop src.2 src.1 t ta m (wipeL L own) src.1 S1 []) PL) := ⟨r_fLc⟩
instance : Ws (sNil L S) PS (PS .nx L S) := ⟨q_nil⟩
instance : Ws (sBrk L S) PS (PS .bk L S) := ⟨q_brk⟩
instance : Ws (sCnt L S) PS (PS .ct L S) := ⟨q_cnt⟩
instance : Ws (sRetN L S) PS (PS (.rt .non) L S) := ⟨q_retN⟩
instance : Ws (sSeq sa sb L S) PS (wps (sa L S) fun fl L1 S1 => match fl with
    | .nx => wps (sb L1 S1) PS
    | fl => PS fl L1 S1) := ⟨q_seq⟩
instance : Ws (sRet m L S) PS (wp (m L S) fun d S1 => PS (.rt d) L S1) := ⟨q_ret⟩
instance : Ws (sDrop m L S) PS (wp (m L S) fun d S1 => PS .nx L S1) := ⟨q_drop⟩
instance : Ws (sSet i m L S) PS (wp (m L S) fun d S1 => PS .nx (L.set i (.v d)) S1) := ⟨q_set⟩
instance : Ws (sOwn i ma L S) PS (wp (ma L S) fun ds S1 => PS .nx (L.set i (.o (.lst ds))) S1) := ⟨q_own⟩
instance : Ws (sFrz i sa L S) PS (∃ v, L[i]? = some v ∧ match v with
    | .v _ => wps (sa L S) PS
    | .o (.lst ds) => wps (sa (L.set i (.v (.lst ds))) S) PS
    | _ => False) := ⟨v_frz⟩
instance {t : Tg} : Ws (sTg t m L S) PS (wp (m L S) fun d S1 => ∃ L1, tgA t d L = some L1 ∧ PS .nx L1 S1) := ⟨q_tg⟩
instance : Ws (sPar2 i j ma L S) PS (wp (ma L S) fun ds S1 => ∃ x y, ds = [x, y] ∧ PS .nx ((L.set i (.v x)).set j (.v y)) S1) := ⟨q_par2⟩
instance : Ws (sPar3 i j l ma L S) PS (wp (ma L S) fun ds S1 => ∃ x y z, ds = [x, y, z] ∧ PS .nx (((L.set i (.v x)).set j (.v y)).set l (.v z)) S1) := ⟨q_par3⟩
instance : Ws (sIf ta sa sb L S) PS (wp (ta L S) fun t S1 => (t = true → wps (sa L S1) PS) ∧ (t = false → wps (sb L S1) PS)) := ⟨q_if⟩
instance : Ws (sApp i m L S) PS (∃ ds, L[i]? = some (.o (.lst ds)) ∧ wp (m L S) fun d S1 => ds.length < sizeLine ∧ PS .nx (L.set i (.o (.lst (ds ++ [d])))) S1) := ⟨v_app⟩
instance : Ws (sPutO a b c L S) PS (wp (c L S) fun d S1 => wp (a L S1) fun o S2 => ∃ n, o = .obj n ∧ wp (b L S2) fun j S3 => ∃ k ds jj, j = .int k ∧ S3[n]? = some (.lst ds) ∧ ixN ds.length k = some jj ∧ PS .nx L (S3.set n (.lst (ds.set jj d)))) := ⟨q_putO⟩
instance : Ws (sPut i a b L S) PS (wp (b L S) fun d S1 => ∃ ds, L[i]? = some (.o (.lst ds)) ∧ wp (a L S1) fun j S2 => ∃ k jj, j = .int k ∧ ixN ds.length k = some jj ∧ PS .nx (L.set i (.o (.lst (ds.set jj d)))) S2) := ⟨q_put⟩
instance : Ws (sAug i o m L S) PS (∃ d, L[i]? = some (.v d) ∧ wp (m L S) fun y S1 => ∃ z, o (deref S1 d) (deref S1 y) = some z ∧ PS .nx (L.set i (.v z)) S1) := ⟨v_aug⟩
instance {mi : Ls → Sto → R Src} {t : Tg} : Ws (sFor mi t sa L S) PS (wp (mi L S) fun src S1 => wps (forL src.2 src.1 t sa src.1 L S1) PS) := ⟨q_for⟩
end
section
variable {a b : Int}
instance : Op (oAdd (.int a) (.int b)) (.int (a + b)) := ⟨x_addi⟩
instance : Op (oSub (.int a) (.int b)) (.int (a - b)) := ⟨x_subi⟩
instance : Op (cEq (.int a) (.int b)) (.bl (decide (a = b))) := ⟨x_eqi⟩
instance : Op (cNe (.int a) (.int b)) (.bl (decide (a ≠ b))) := ⟨x_nei⟩
instance : Op (cLt (.int a) (.int b)) (.bl (decide (a < b))) := ⟨x_lti⟩
instance : Op (cLe (.int a) (.int b)) (.bl (decide (a ≤ b))) := ⟨x_lei⟩
instance : Op (cGt (.int a) (.int b)) (.bl (decide (b < a))) := ⟨x_gti⟩
instance : Op (cGe (.int a) (.int b)) (.bl (decide (b ≤ a))) := ⟨x_gei⟩
instance {a b : List Nat} : Op (cEq (.str a) (.str b)) (.bl (decide (a = b))) := ⟨x_eqs⟩
instance {a b : List Nat} : Op (cNe (.str a) (.str b)) (.bl (decide (a ≠ b))) := ⟨x_nes⟩
instance : Og (oMul (.int a) (.int b)) (.int (a * b)) (a.natAbs.log2 + b.natAbs.log2 < 1000000) := ⟨x_muli⟩
instance : Og (oFdiv (.int a) (.int b)) (.int (a / b)) (0 < b ∧ b.natAbs.log2 < 9000) := ⟨x_div⟩
instance : Og (oMod (.int a) (.int b)) (.int (a % b)) (0 < b) := ⟨x_mod⟩
instance : Og (oPow (.int a) (.int b)) (.int (a ^ b.toNat)) (0 ≤ b ∧ b ≤ 1000000 ∧ a.natAbs < 2 ^ 64) := ⟨x_pow⟩
instance {a b : List Nat} : Og (oAdd (.str a) (.str b)) (.str (a ++ b)) (a.length + b.length ≤ sizeLine) := ⟨x_adds⟩
instance {a b : List D} : Og (oAdd (.tup a) (.tup b)) (.tup (a ++ b)) (a.length + b.length ≤ sizeLine) := ⟨x_addt⟩
instance {a b : List D} : Og (oAdd (.lst a) (.lst b)) (.lst (a ++ b)) (a.length + b.length ≤ sizeLine) := ⟨x_addl⟩
end
theorem g_op {e : Option D} {z : D} [h : Op e z] {Q : D → Prop} (k : Q z) : ∃ w, e = some w ∧ Q w := ⟨z, h.eq, k⟩
theorem g_og {e : Option D} {z : D} {c : Prop} [h : Og e z c] {Q : D → Prop} (hc : c) (k : Q z) : ∃ w, e = some w ∧ Q w := ⟨z, h.eq hc, k⟩
section
variable {all xs ds acc : List D} {d : D} {t : Tg} {b : SM} {L Lw : Ls} {S : Sto} {PS : Fl → Ls → Sto → Prop} {PL : List D → Sto → Prop} {tt : Ls → Sto → R Bool} {te : EM}
theorem f_nil (h : xs = []) (k : PS .nx L S) : wps (forL none all t b xs L S) PS := by subst h; exact ⟨k⟩
theorem f_cons (h : xs = d :: ds) (k : ∃ L1, tgA t d L = some L1 ∧ wps (b L1 S) fun fl L2 S2 => match fl with
    | .nx => wps (forL none all t b ds L2 S2) PS
    | .ct => wps (forL none all t b ds L2 S2) PS
    | .bk => PS .nx L2 S2
    | .rt x => PS (.rt x) L2 S2) : wps (forL none all t b xs L S) PS := by
  subst h
  obtain ⟨L1, e, k⟩ := k
  rw [forL, ckS, e]
  dsimp only
  cases q : b L1 S with
  | no => rw [q] at k; exact k.out.elim
  | ex x L2 S2 => rw [q] at k; exact ⟨k.out⟩
  | ok fl L2 S2 =>
    rw [q] at k
    cases fl <;> first | exact k.out | exact ⟨k.out⟩
theorem l_nil (h : xs = []) (k : PL acc S) : wp (lcLoop none all t tt te Lw xs S acc) PL := by subst h; exact ⟨k⟩
theorem l_cons (h : xs = d :: ds) (k : ∃ L1, tgA t d Lw = some L1 ∧ @wp noXP _ (tt L1 S) fun b S1 => (b = true → @wp noXP _ (te L1 S1) fun y S2 => acc.length < sizeLine ∧ wp (lcLoop none all t tt te Lw ds S2 (acc ++ [y])) PL) ∧ (b = false → wp (lcLoop none all t tt te Lw ds S1 acc) PL)) : wp (lcLoop none all t tt te Lw xs S acc) PL := by
  subst h
  obtain ⟨L1, e, h⟩ := k
  rw [lcLoop, ckd, e]
  dsimp only
  cases q : tt L1 S with
  | no => rw [q] at h; exact h.out.elim
  | ex x S1 => rw [q] at h; exact h.out.elim
  | ok b S1 =>
    rw [q] at h
    obtain ⟨h1, h2⟩ := (show (b = true → @wp noXP _ (te L1 S1) fun y S2 => acc.length < sizeLine ∧ wp (lcLoop none all t tt te Lw ds S2 (acc ++ [y])) PL) ∧ (b = false → wp (lcLoop none all t tt te Lw ds S1 acc) PL) from h.out)
    dsimp only [R.nox, R.bind]
    cases b with
    | true =>
      have h1 := h1 rfl
      rw [if_pos rfl]
      cases q2 : te L1 S1 with
      | no => rw [q2] at h1; exact h1.out.elim
      | ex x S2 => rw [q2] at h1; exact h1.out.elim
      | ok y S2 =>
        rw [q2] at h1
        obtain ⟨hz, h1⟩ := h1.out
        dsimp only
        rw [if_pos hz]
        exact h1
    | false => exact h2 rfl
end
theorem bls_map {α : Type} (f : α → Bool) : ∀ s : List α, blsD (s.map fun c => D.bl (f c)) = some (s.map f)
  | [] => rfl
  | c :: s => by rw [List.map_cons, blsD, bls_map f s]; rfl
theorem all_map {α : Type} (f : α → Bool) (s : List α) : bAll [.lst (s.map fun c => D.bl (f c))] = some (.bl (s.all f)) := by
  show (blsD (s.map fun c => D.bl (f c))).map (fun bs => D.bl (bs.all id)) = _
  rw [bls_map, Option.map_some, List.all_map]
  rfl
theorem g_rng1 {ds : List D} {j : Int} {P : Src → Prop} (hd : ds = [.int j]) (h : -(2 ^ 62) ≤ j ∧ j < 2 ^ 62) (k : P (rngI 0 j.toNat, none)) : ∃ s, rng1 ds = some s ∧ P s := by
  subst hd
  exact ⟨_, if_pos h, k⟩
theorem x_sls {x : List Nat} {lo hi : Option Int} (h : x.length ≤ sizeLine) : oSl (.str x) lo hi = some (.str (cutD x lo hi)) := if_pos h
instance {x : List Nat} {lo hi : Option Int} : Og (oSl (.str x) lo hi) (.str (cutD x lo hi)) (x.length ≤ sizeLine) := ⟨x_sls⟩
instance {x : List D} {lo hi : Option Int} : Op (oSl (.lst x) lo hi) (.lst (cutD x lo hi)) := ⟨rfl⟩
instance {x : List D} {lo hi : Option Int} : Op (oSl (.tup x) lo hi) (.tup (cutD x lo hi)) := ⟨rfl⟩
theorem wpG {xp : ExP} {α : Type} {r : R α} {P : α → Sto → Prop} (h : @wp xp α r P) : @wp xp α r P := h
theorem wsG {xp : ExP} {r : RS} {P : Fl → Ls → Sto → Prop} (h : @wps xp r P) : @wps xp r P := h
theorem exG {α : Sort _} {p : α → Prop} (h : Exists p) : Exists p := h
theorem anG {a b : Prop} (h : a ∧ b) : a ∧ b := h
end Rf
set_option Elab.async false
set_option linter.all false
set_option maxRecDepth 100000
set_option maxHeartbeats 0
namespace Rf
open PySem L2 TL
variable {xp : ExP}
theorem pairI_cons {a b : D} {as bs : List D} : pairI (a :: as) (b :: bs) = .tup [a, b] :: pairI as bs := rfl
section
variable {α : Type} {f g : α → D} {all : List D} {t : Tg} {b : SM} {P : Fl → Ls → Sto → Prop} {PL : List D → Sto → Prop} {tt : Ls → Sto → R Bool} {te : EM} {Lw : Ls}
/-- a comprehension without effects -/
theorem lc_eq {S : Sto} (as : List α) (h : ∀ a ∈ as, ∃ L1, tgA t (f a) Lw = some L1 ∧ tt L1 S = .ok true S ∧ te L1 S = .ok (g a) S) (hz : as.length ≤ sizeLine) : lcLoop none all t tt te Lw (as.map f) S [] = .ok (as.map g) S := by
  have key : ∀ (as : List α) (acc : List D), (∀ a ∈ as, ∃ L1, tgA t (f a) Lw = some L1 ∧ tt L1 S = .ok true S ∧ te L1 S = .ok (g a) S) → acc.length + as.length ≤ sizeLine → lcLoop none all t tt te Lw (as.map f) S acc = .ok (acc ++ as.map g) S := by
    intro as
    induction as with
    | nil => intro acc _ _; rw [List.map_nil, lcLoop, ckd, List.map_nil, List.append_nil]
    | cons a as ih =>
      intro acc h hz
      obtain ⟨L1, e1, e2, e3⟩ := h a List.mem_cons_self
      rw [List.length_cons] at hz
      rw [List.map_cons, lcLoop, ckd, e1]
      dsimp only
      rw [e2]
      dsimp only [R.nox, R.bind]
      rw [if_pos rfl, e3]
      dsimp only
      rw [if_pos (by omega), ih (acc ++ [g a]) (fun x hx => h x (List.mem_cons_of_mem _ hx)) (by rw [List.length_append, List.length_singleton]; omega), List.map_cons, List.append_assoc, List.singleton_append]
  have := key as [] h (by rw [List.length_nil]; omega)
  rw [this, List.nil_append]
end
theorem wp.eq {α : Type} {r : R α} {P : α → Sto → Prop} {a : α} {S : Sto} (e : r = .ok a S) (h : P a S) : wp r P := by rw [e]; exact ⟨h⟩
theorem ok_of {r : R D} {d : D} {S : Sto} (h : @wp noXP _ r fun a S' => a = d ∧ S' = S) : r = .ok d S := by
  obtain ⟨a, S', e, rfl, rfl⟩ := h.ex
  exact e
mutual
def pl : D → Bool
  | .non => true
  | .bl _ => true
  | .int _ => true
  | .str _ => true
  | .tup ds => decide (ds.length ≤ 100000) && plL ds
  | .lst ds => decide (ds.length ≤ 100000) && plL ds
  | _ => false
def plL : List D → Bool
  | [] => true
  | d :: ds => pl d && plL ds
end
mutual
def dp : D → Nat
  | .tup ds => dpL ds + 1
  | .lst ds => dpL ds + 1
  | _ => 0
def dpL : List D → Nat
  | [] => 0
  | d :: ds => max (dp d) (dpL ds)
end
theorem plL_mem : ∀ {ds : List D} {d : D}, plL ds = true → d ∈ ds → pl d = true
  | [], _, _, h => by cases h
  | e :: ds, d, h, hd => by
    rw [plL, Bool.and_eq_true] at h
    rcases List.mem_cons.mp hd with rfl | hd
    · exact h.1
    · exact plL_mem h.2 hd
theorem dpL_mem : ∀ {ds : List D} {d : D}, d ∈ ds → dp d ≤ dpL ds
  | [], _, h => by cases h
  | e :: ds, d, hd => by
    rw [dpL]
    rcases List.mem_cons.mp hd with rfl | hd
    · exact Nat.le_max_left _ _
    · exact Nat.le_trans (dpL_mem hd) (Nat.le_max_right _ _)
theorem pair_self : ∀ ds : List D, pairI ds ds = ds.map fun d => .tup [d, d]
  | [] => rfl
  | d :: ds => by rw [pairI_cons, pair_self ds]; rfl
theorem all_true {α : Type} (s : List α) : bAll [.lst (s.map fun _ => D.bl true)] = some (.bl true) := by
  have := all_map (fun _ : α => true) s
  rw [this]
  simp
theorem g_ift {A B : Prop} (h : A) : if true = true then A else B := h
end Rf
set_option Elab.async false
set_option linter.all false
set_option maxRecDepth 100000
set_option maxHeartbeats 0
namespace Rf
open PySem L2 TL
variable {xp : ExP}
section
variable {X : Cx} {W : WX} {e : Expr} {m : EM} {pos pos' : Pos}
def sExt (i : Nat) (m : EM) : SM := fun L S => match L[i]? with
  | some (.o (.lst ds)) => (m L S).st L fun d S1 => match d with
    | .lst es => if ds.length + es.length ≤ sizeLine then .ok .nx (L.set i (.o (.lst (ds ++ es)))) S1 else .no
    | _ => .no
  | _ => .no
def jsL : List EM → List Nat → EM
  | [], acc => fun _ S => .ok (.str acc) S
  | m :: ms, acc => fun L S => (m L S).bind fun d S1 => match d with
    | .str y => if (acc ++ y).length ≤ sizeLine then jsL ms (acc ++ y) L S1 else .no
    | _ => .no
def eJs (ms : List EM) : EM := jsL ms []
end
section
variable {X : Cx} {W : WX} {a b : Expr} {ma mb : EM} {pos : Pos}
def fCat (ma mb : EM) : Ls → Sto → R (List D) := fun L S => (ma L S).bind fun x S1 => (mb L S1).bind fun y S2 => match deref S2 x, deref S2 y with
  | .lst ds, .lst es => if ds.length + es.length ≤ sizeLine then .ok (ds ++ es) S2 else .no
  | _, _ => .no
end
section
variable {P : D → Sto → Prop} {PS : Fl → Ls → Sto → Prop} {L : Ls} {S : Sto} {m : EM} {ms : List EM} {i : Nat} {acc : List Nat}
instance : Wp (eJs ms L S) P (wp (jsL ms [] L S) P) := ⟨id⟩
instance : Wp (jsL [] acc L S) P (P (.str acc) S) := ⟨fun h => ⟨h⟩⟩
instance : Wp (jsL (m :: ms) acc L S) P (wp (m L S) fun d S1 => ∃ y, d = .str y ∧ (acc ++ y).length ≤ sizeLine ∧ wp (jsL ms (acc ++ y) L S1) P) := ⟨fun h => by
  rw [jsL, wp_bind]
  refine h.mono fun d S1 ⟨y, e, hz, h⟩ => ?_
  subst e
  dsimp only
  rw [if_pos hz]
  exact h⟩
instance : Ws (sExt i m L S) PS (∃ ds, L[i]? = some (.o (.lst ds)) ∧ wp (m L S) fun d S1 => ∃ es, d = .lst es ∧ ds.length + es.length ≤ sizeLine ∧ PS .nx (L.set i (.o (.lst (ds ++ es)))) S1) := ⟨fun ⟨ds, e, h⟩ => by
  unfold sExt
  rw [e]
  dsimp only
  rw [wps_st]
  refine h.mono fun d S1 ⟨es, e, hz, h⟩ => ?_
  subst e
  dsimp only
  rw [if_pos hz]
  exact ⟨h⟩⟩
instance {a b : EM} {PL : List D → Sto → Prop} : Wp (fCat a b L S) PL (wp (a L S) fun x S1 => wp (b L S1) fun y S2 => ∃ ds es, deref S2 x = .lst ds ∧ deref S2 y = .lst es ∧ ds.length + es.length ≤ sizeLine ∧ PL (ds ++ es) S2) := ⟨fun h => by
  unfold fCat
  rw [wp_bind]
  refine h.mono fun x S1 h => ?_
  rw [wp_bind]
  refine h.mono fun y S2 ⟨ds, es, e1, e2, hz, h⟩ => ?_
  rw [e1, e2]
  dsimp only
  rw [if_pos hz]
  exact ⟨h⟩⟩
end
end Rf
set_option Elab.async false
set_option linter.all false
set_option maxRecDepth 100000
set_option maxHeartbeats 0
namespace Rf
open PySem L2 TL
end Rf
set_option Elab.async false
set_option linter.all false
set_option maxRecDepth 100000
set_option maxHeartbeats 0
namespace Rf
open PySem PySem.Spec PyProof.Rows L2 TL
open PySem.Froz (SD sObj TxOk addTx tailTx add_x add_ok is_str)
/-- the table can be walked -/
def Wk (w : World) (t : SetTable) : Prop := Ris t.place.toList ∧ (w.params.followText "set-order" = true ∨ t.led = true)
/-- the set of the texts l stands at a -/
def SetS (P : Program) (w : World) (h : Heap) (a : Addr) (l : List Str) : Prop := ∃ D : SD, h.get? a = some (sObj "set" D) ∧ TxOk P w D l ∧ l.Nodup ∧ Wk w D.2.2
section
variable {P : Program} {w : World} {h h' : Heap} {a : Addr} {l : List Str}
theorem SetS.at (r : SetS P w h a l) (k : ∀ o, h.get? a = some o → h'.get? a = some o) : SetS P w h' a l := by
  obtain ⟨D, q, z⟩ := r
  exact ⟨D, k _ q, z⟩
end
end Rf
set_option Elab.async false
set_option linter.all false
set_option maxRecDepth 100000
set_option maxHeartbeats 0
namespace Rf
open PySem PySem.Spec PyProof.Rows L2 TL
open PySem.Froz (SD sObj TxOk addTx tailTx add_x add_ok is_str)
end Rf
set_option Elab.async false
set_option linter.all false
set_option maxRecDepth 100000
set_option maxHeartbeats 0
namespace Rf
open PySem PyProof.Rows L2 TL
variable {xp : ExP}
def insU (x : List Nat) : List (List Nat) → List (List Nat)
  | [] => [x]
  | y :: ys => if x = y then y :: ys else if x < y then x :: y :: ys else y :: insU x ys
def sortU : List (List Nat) → List (List Nat)
  | [] => []
  | x :: xs => insU x (sortU xs)
def srtR (ds : List D) (S : Sto) : R (List D) := match strsD ds with
  | some xs => if xs.length < 4000 then .ok ((sortU xs).map .str) S else .no
  | none => .no
noncomputable def fSrt (mi : Ls → Sto → R Src) (own : List Nat) (t : Tg) (tt : Ls → Sto → R Bool) (te : EM) : Ls → Sto → R (List D) := fun L S =>
  (mi L S).bind fun src S1 => (lcLoop src.2 src.1 t tt te (wipeL L own) src.1 S1 []).bind srtR
theorem r_fSrt {mi : Ls → Sto → R Src} {own : List Nat} {t : Tg} {ta : Ls → Sto → R Bool} {m : EM} {L : Ls} {S : Sto} {PL : List D → Sto → Prop} (h : wp (mi L S) fun src S1 => wp (lcLoop src.2 src.1 t ta m (wipeL L own) src.1 S1 []) fun ds S2 => ∃ xs, strsD ds = some xs ∧ xs.length < 4000 ∧ PL ((sortU xs).map .str) S2) : wp (fSrt mi own t ta m L S) PL := by
  unfold fSrt
  rw [wp_bind]
  refine h.mono fun src S1 h => ?_
  rw [wp_bind]
  refine h.mono fun ds S2 ⟨xs, e, few, k⟩ => ?_
  unfold srtR
  rw [e]
  show wp (if xs.length < 4000 then _ else _) PL
  rw [if_pos few]
  exact ⟨k⟩
instance {mi : Ls → Sto → R Src} {own : List Nat} {t : Tg} {ta : Ls → Sto → R Bool} {m : EM} {L : Ls} {S : Sto} {PL : List D → Sto → Prop} : Wp (fSrt mi own t ta m L S) PL (wp (mi L S) fun src S1 => wp (lcLoop src.2 src.1 t ta m (wipeL L own) src.1 S1 []) fun ds S2 => ∃ xs, strsD ds = some xs ∧ xs.length < 4000 ∧ PL ((sortU xs).map .str) S2) := ⟨r_fSrt⟩
end Rf
set_option Elab.async false
set_option linter.all false
set_option maxRecDepth 100000
set_option maxHeartbeats 0
namespace Rf
open PySem PySem.Spec PyProof.Rows L2 TL
variable {xp : ExP}
open PySem.Froz (SD sObj TxOk addTx tailTx add_x add_ok is_str)
section
variable {P : Program} {w : World} {A : Around} {E : Value → Shared → Prop} {s : Shared}
/-- what a walk over texts lays -/
structure Has (xs : List Str) (i : Nat) (l : List Str) : Prop where
  nd : l.Nodup
  mem : ∀ k, k ∈ l ↔ k ∈ xs.take i
  len : l.length ≤ i
theorem Has.next {xs : List Str} {i : Nat} {l : List Str} {k : Str} (h : Has xs i l) (hk : xs[i]? = some k) : Has xs (i + 1) (if k ∈ l then l else k :: l) := by
  have e : xs.take (i + 1) = xs.take i ++ [k] := by rw [List.take_add_one, hk]; rfl
  by_cases c : k ∈ l
  · rw [if_pos c]
    refine ⟨h.nd, fun z => ?_, Nat.le_succ_of_le h.len⟩
    rw [e, List.mem_append, ← h.mem z]
    exact ⟨.inl, fun q => q.elim id fun q => by rw [List.mem_singleton.mp q]; exact c⟩
  · rw [if_neg c]
    refine ⟨List.nodup_cons.mpr ⟨c, h.nd⟩, fun z => ?_, Nat.succ_le_succ h.len⟩
    rw [e, List.mem_append, ← h.mem z, List.mem_singleton, List.mem_cons]
    exact or_comm
end
end Rf
set_option Elab.async false
set_option linter.all false
set_option maxRecDepth 100000
set_option maxHeartbeats 4000000
namespace Rf
open PySem L2 TL
def sRaise (c f : Str) (m : EM) : SM := fun L S => (m L S).st L fun d S1 => .ex ⟨c, [(f, d)]⟩ L S1
/-- a made one -/
structure XMade (f : Str) (h h' : Heap) (e C d : Addr) (v : Value) : Prop where
  keep : ∀ b o, h.get? b = some o → h'.get? b = some o
  new : h.objs.size ≤ e
  obj : ∃ oe vs, h'.get? e = some oe ∧ oe.cls = .ref C ∧ oe.dict = some d ∧ oe.data = .fields vs ∧ vs[1]? = some .none
  dbig : h.objs.size ≤ d
  dne : d ≠ e
  ns : h'.Ns1 d (fun y => if y = f then some v else none)
/-- what is known of a class that is raised with one field -/
structure RaiseC (P : Program) (w : World) (K : PySem.W.Frag) (mg : Str → Option Value) (c f : Str) (C : Addr) : Prop where
  gC : mg c = some (.ref C)
  kC : PySem.W.keepIn K (.ref C) = true
  exC : PySem.W.subIn K (.ref C) (.type "BaseException") = some true
  tyC : PySem.W.typeIn K (.ref C) = some (.type "type")
  made : ∀ {A : Around} {R : Result → Shared → Prop} {s : Shared} {v : Value}, K.In s.heap → s.heap.NoLimit → A.depth + 1 < recursionLimit →
    (∀ h' tk e d, XMade f s.heap h' e C d v → R (.ok (.ret (.ref e))) { s with heap := h', toks := tk }) → codeAny (model P w) A (.call (.ref C) ⟨[v], []⟩) R s
def RaiseIn (P : Program) (w : World) (K : PySem.W.Frag) (mg : Str → Option Value) (c f : Str) : Prop := ∃ C, RaiseC P w K mg c f C
def noX (L : Ls) : Bool := L.all fun
  | .exc _ => false
  | _ => true
abbrev IsT := Str → Option Bool
def suR (i : Nat) : RS → RS
  | .ok f L2 S2 => if noX (L2.set i .un) = true then .ok f (L2.set i .un) S2 else .no
  | _ => .no
def sTry (is : IsT) (i : Nat) (b su : SM) : SM := fun L S => match b L S with
  | .ex x L1 S1 => match is x.cls with
    | some true => suR i (su (L1.set i (.exc x)) S1)
    | some false => .ex x L1 S1
    | none => .no
  | r => r
theorem LocRel.kc {k k' : Kx} {σ : L2.St} {L : Ls} {H : Hp} {g : G} (h1 : k'.K = k.K) (h2 : k'.mg = k.mg) (h3 : k'.w = k.w) (l : LocRel k σ L H g) (hx : ∀ (i : Nat) (x : Exn), L[i]? ≠ some (.exc x)) : LocRel k' σ L H g where
  len := l.len
  val := fun i d q => by
    obtain ⟨v, a, b⟩ := l.val i d q
    exact ⟨v, a, Rep.kc h1 h2 _ _ b⟩
  own := fun i o q => by
    obtain ⟨a, b, c⟩ := l.own i o q
    exact ⟨a, b, c.1.kc h1 h2 h3, c.2⟩
  sep := l.sep
  exc := fun i x q => absurd q (hx i x)
theorem Fr.kc {k k' : Kx} {B : Hp} {gB : G} {σ : L2.St} {L : Ls} {H : Hp} {g : G} {S : Sto} (h1 : k'.K = k.K) (h2 : k'.mg = k.mg) (h3 : k'.w = k.w) (f : Fr k B gB σ L H g S) (hx : ∀ (i : Nat) (x : Exn), L[i]? ≠ some (.exc x)) : Fr k' B gB σ L H g S :=
  ⟨f.loc.kc h1 h2 h3 hx, f.wf.kc h1 h2 h3, f.base, f.new⟩
end Rf
set_option Elab.async false
set_option linter.all false
set_option maxRecDepth 100000
set_option maxHeartbeats 4000000
namespace Rf
open PySem L2 TL
def okO (a b : Option (Option Value)) : Bool := decide (a = b)
theorem okO_ok {a b : Option (Option Value)} (h : okO a b = true) : a = b := of_decide_eq_true h
theorem b2 {a b : Bool} (h : (a && b) = true) : a = true ∧ b = true := Bool.and_eq_true_iff.mp h
/-- a class of exceptions with dicts -/
def excB (K : PySem.W.Frag) (C : Addr) : Bool :=
  okO (PySem.W.findIn K (.ref C) "__getattribute__") (some (some (.builtin "BaseException.__getattribute__"))) && (okO (PySem.W.findIn K (.ref C) "__getattr__") (some none) &&
  (decide (PySem.W.subIn K (.ref C) (.type "BaseException") = some true) && (PySem.W.hasDictIn K C &&
  (okO (PySem.W.findIn K (.ref C) "__class__") (some (some (.builtin "object.__class__"))) && (okO (PySem.W.specialIn K (.builtin "object.__class__") "__get__") (some (some (.builtin "getset_descriptor.__get__"))) &&
  (decide (PySem.W.takesIn K (.builtin "object.__class__") = some true) && (decide (PySem.W.mroIn K C (.type "object") = some true) && decide (PySem.W.typeIn K (.ref C) = some (.type "type")))))))))
structure ExcAt (K : PySem.W.Frag) (C : Addr) : Prop extends L2.ExcC K C where
  xf : L2.XfC K C
  ty : PySem.W.typeIn K (.ref C) = some (.type "type")
theorem excB_ok {K : PySem.W.Frag} {C : Addr} (h : excB K C = true) : ExcAt K C := by
  obtain ⟨h1, h⟩ := b2 h
  obtain ⟨h2, h⟩ := b2 h
  obtain ⟨h3, h⟩ := b2 h
  obtain ⟨h4, h⟩ := b2 h
  obtain ⟨h5, h⟩ := b2 h
  obtain ⟨h6, h⟩ := b2 h
  obtain ⟨h7, h⟩ := b2 h
  obtain ⟨h8, h9⟩ := b2 h
  exact { hg := okO_ok h1, hk := okO_ok h2, hs := of_decide_eq_true h3, hd := h4, ha := okO_ok h5, hn := okO_ok h6, ht := of_decide_eq_true h7, hm := of_decide_eq_true h8, xf := ⟨okO_ok h1, okO_ok h2, of_decide_eq_true h3, h4⟩, ty := of_decide_eq_true h9 }
def clsB (K : PySem.W.Frag) (c : Str) (fs : List Str) : Bool := okO (PySem.W.nsIn K mainGlobals c) (some (some (.ref (He.ga K c)))) && (excB K (He.ga K c) && fs.all fun f => okO (PySem.W.findIn K (.ref (He.ga K c)) f) (some none))
/-- the name c stands for such a class; its instances' own fields fs are read off them -/
def ClsAt (K : PySem.W.Frag) (mg : Str → Option Value) (c : Str) (fs : List Str) : Prop := mg c = some (.ref (He.ga K c)) ∧ ExcAt K (He.ga K c) ∧ ∀ f ∈ fs, PySem.W.findIn K (.ref (He.ga K c)) f = some none
theorem clsB_ok {K : PySem.W.Frag} {h : Heap} {mg : Str → Option Value} (X : K.In h) (G : h.Ns mainGlobals mg) {c : Str} {fs : List Str} (q : clsB K c fs = true) : ClsAt K mg c fs := by
  obtain ⟨h1, q⟩ := b2 q
  obtain ⟨h2, h3⟩ := b2 q
  exact ⟨PySem.W.mg_of X G (okO_ok h1), excB_ok h2, fun f hf => okO_ok (List.all_eq_true.mp h3 f hf)⟩
/-- how the class object and its maker stand -/
def rsB (K : PySem.W.Frag) (C fI : Addr) : Bool := (match K.lookup C with
  | some ⟨.type "type", _, .cls cd, sl⟩ => (match cd.mro, sl.toList with
    | .ref C' :: bm, [_, _, _, _, some (.builtin n), _] => C' == C && (n == "ValueError.__new__" && (!cd.hasDel && (cd.hasDict && PySem.HandSPX.refsVE bm)))
    | _, _ => false)
  | _ => false) && (okO (PySem.W.findIn K (.ref C) "__setattr__") (some (some (.builtin "object.__setattr__"))) && (okO (PySem.W.findIn K (.ref C) "__init__") (some (some (.ref fI))) && (decide (PySem.W.typeIn K (.ref fI) = some (.type "function")) && PySem.W.keepIn K (.ref C))))
structure RsAt (K : PySem.W.Frag) (C fI : Addr) : Prop where
  cls : ∃ nm q N bs bm sn sub ab col dd k0 k1 k2 k3 k5, K.lookup C = some (excClassObj nm q C N bs bm true sn sub ab col dd k0 k1 k2 k3 k5 "ValueError.__new__") ∧ PySem.HandSPX.refsVE bm = true
  sa : PySem.W.findIn K (.ref C) "__setattr__" = some (some (.builtin "object.__setattr__"))
  iC : PySem.W.findIn K (.ref C) "__init__" = some (some (.ref fI))
  tC : PySem.W.typeIn K (.ref fI) = some (.type "function")
  kC : PySem.W.keepIn K (.ref C) = true
theorem rsB_ok {K : PySem.W.Frag} {C fI : Addr} (h : rsB K C fI = true) : RsAt K C fI := by
  obtain ⟨h1, h⟩ := b2 h
  obtain ⟨h2, h⟩ := b2 h
  obtain ⟨h3, h⟩ := b2 h
  obtain ⟨h4, h5⟩ := b2 h
  refine ⟨?_, okO_ok h2, okO_ok h3, of_decide_eq_true h4, h5⟩
  split at h1
  · rename_i dd cd sl ho
    split at h1
    · rename_i C' bm k0 k1 k2 k3 n k5 hm hs
      obtain ⟨e1, h1⟩ := b2 h1
      obtain ⟨e2, h1⟩ := b2 h1
      obtain ⟨e3, h1⟩ := b2 h1
      obtain ⟨e4, e5⟩ := b2 h1
      have e1 := beq_iff_eq.mp e1
      have e2 := beq_iff_eq.mp e2
      subst e1 e2
      obtain ⟨nm, bs, mro, ns, qn, hd, sn, sub, ab, col, del⟩ := cd
      dsimp only at hm e3 e4
      subst hm e4
      have e3 : del = false := by simpa using e3
      subst e3
      have hsl : sl = #[k0, k1, k2, k3, some (.builtin "ValueError.__new__"), k5] := by
        obtain ⟨l⟩ := sl
        simp only at hs
        rw [hs]
      subst hsl
      exact ⟨nm, qn, ns, bs, bm, sn, sub, ab, col, dd, k0, k1, k2, k3, k5, ho, e5⟩
    · cases h1
  · cases h1
end Rf
set_option Elab.async false
set_option linter.all false
set_option maxRecDepth 100000
set_option maxHeartbeats 4000000
namespace Rf
open PySem PySem.W PySem.Calls PyProof.Rows PySem.HandSPX
def xiA (f : Str) (p1 p2 : Pos) : Arguments := { posonlyargs := [], args := [{ arg := "self", annotation := none, pos := p1 }, { arg := f, annotation := none, pos := p2 }], vararg := none, kwonlyargs := [], kw_defaults := [], kwarg := none, defaults := [] }
def xiB (f : Str) (q1 q2 q3 q4 : Pos) : List Stmt := [.Assign [.Attribute (.Name "self" q1) f q2] (.Name f q3) q4]
def xiS (f : Str) : Scope := { kind := .function, names := [(PySem.Str.ofString "self", .local), (f, .local)], isGenerator := false, isCoroutine := false, more := [] }
theorem xone_size (v : Value) : [v].length ≤ sizeLine := by
  rw [sizeLine_eq]
  exact (by decide : 1 ≤ 16777216)
theorem xldC {M : Model} {s : Shared} {name : Str} {scope : Scope} {L a : Addr} {cd : Value} {m : Str → Option Value} {x : Str} {pos : Pos} {v : Value} {Q : Value → Shared → Prop} {A : Around} {E : Value → Shared → Prop}
    (hn : s.heap.Ns L m) (hv : m x = some v) (h : Q v s) (hk : scope.kind = .function := by rfl) (hl : (envOfC name scope L a cd).kindOf x = some .local := by rfl) (hd : (x == ("__debug__" : Str)) = false := by decide) :
    wpAny M A (eval (.Name x pos) (envOfC name scope L a cd)) Q E s := wpAny_Name (wpAny_loadName_local hk hl hn hv h) hd
/-- what the maker leaves of a fresh exception at x -/
structure XInit (f : Str) (h h' : Heap) (x C dx t1 : Addr) (v : Value) : Prop where
  keep : ∀ b o, b ≠ x → h.get? b = some o → h'.get? b = some o
  obj : h'.get? x = some { cls := .ref C, dict := some dx, data := .fields #[.ref t1, .none, .none, .none, .bool false, .none] }
  dbig : h.objs.size ≤ dx
  dne : dx ≠ x
  ns : h'.Ns1 dx (fun y => if y = f then some v else none)
section
variable {prog : Program} {w : World} {A : Around} {R : Result → Shared → Prop} {s : Shared} {K : Frag} {mg : Str → Option Value} {C fI : Addr} {fd : FuncData} {p1 p2 q1 q2 q3 q4 : Pos}
theorem mi_Clash (T : RsAt K C fI) (noN : findIn K (.ref C) "steps" = some none) (F : L2.FunD K "__init__" "Clash.__init__" (xiA "steps" p1 p2) (xiB "steps" q1 q2 q3 q4) (xiS "steps") [] [] fI fd) {x t0 : Addr} {v : Value}
    (X : K.In s.heap) (hlim : s.heap.NoLimit) (hx : s.heap.get? x = some (excO C t0)) (hnx : K.lookup x = none) (hroom : A.depth < recursionLimit)
    (hq : ∀ h' tk dx, XInit "steps" s.heap h' x C dx t0 v → R (.ok (.ret .none)) { s with heap := h', toks := tk }) :
    codeAny (model prog w) A (.call (.ref fI) ⟨[.ref x, v], []⟩) R s := by
  have hb := F.bindsN (ps := ["self", "steps"]) (fun _ _ _ _ _ _ us hl => match us, hl with | [_, _], _ => rfl) s [.ref x, v] X rfl
  obtain ⟨oc, od, dV, kV, doc, pm, an, cdv, ct, osl, rfl, ho, hcd, _, _⟩ := F.ex
  obtain ⟨nm, q, N, bs, bm, sn, sub, ab, col, dd, k0, k1, k2, k3, k5, hC, hbm⟩ := T.cls
  have hcl : clsIn K C = some { name := nm, bases := bs, mro := .ref C :: bm, ns := N, qualname := q, hasDict := true, slotNames := sn, subclasses := sub, abstract := ab, collection := col, hasDel := false } := by unfold clsIn; rw [hC] <;> rfl
  refine Att.call_fn (binds := [("self", .ref x), ("steps", v)]) X hlim ho hcd hroom hb (by first | rfl | decide | with_unfolding_all rfl) (fun s₁ IC => ?_) rfl rfl rfl
  obtain ⟨h₁, tk₁, rfl⟩ := IC.toInCall.same
  have k : ∀ b o, s.heap.get? b = some o → h₁.get? b = some o := IC.toInCall.keep
  have hn := IC.toInCall.ns
  have X₁ : K.In h₁ := X.keeps k
  have hx₁ := k _ _ hx
  show wpAny _ _ (execs _ _) _ _ _
  refine wpAny_execs_cons (plainObj_wpAny_Assign_Attribute ?_)
  refine xldC (v := v) hn (by first | rfl | with_unfolding_all rfl | kernel_rfl) (xldC (v := .ref x) hn (by first | rfl | with_unfolding_all rfl | kernel_rfl) ?_)
  refine set_plain X₁ (ox := excO C t0) (od := none) ⟨hx₁, rfl, rfl, trivial⟩ T.sa ?_
  refine exc_osa X₁ hx₁ hcl (show refsVE (.ref C :: bm) = true from hbm) rfl noN (fun h₃ tk₃ dx k₃ dn dne hx₃ hn₃ => ?_)
  show wpAny _ _ (execs _ _) _ _ _
  have z : s.heap.objs.size < h₁.objs.size := hn.lt
  exact wpAny_execs_nil (hq h₃ tk₃ dx ⟨fun b o hb e => k₃ b o hb (k b o e), hx₃, Nat.le_of_lt (Nat.lt_of_lt_of_le z dn), dne, hn₃⟩)
theorem mk_Clash (T : RsAt K C fI) (noN : findIn K (.ref C) "steps" = some none) (F : L2.FunD K "__init__" "Clash.__init__" (xiA "steps" p1 p2) (xiB "steps" q1 q2 q3 q4) (xiS "steps") [] [] fI fd) {v : Value} (X : K.In s.heap) (hlim : s.heap.NoLimit) (hroom : A.depth + 1 < recursionLimit)
    (hq : ∀ h' tk e d, XMade "steps" s.heap h' e C d v → R (.ok (.ret (.ref e))) { s with heap := h', toks := tk }) :
    codeAny (model prog w) A (.call (.ref C) ⟨[v], []⟩) R s := by
  obtain ⟨nm, q, N, bs, bm, sn, sub, ab, col, dd, k0, k1, k2, k3, k5, hC, hbm⟩ := T.cls
  obtain ⟨hp, g, dr, tk, os⟩ := s
  have k : ∀ b o, hp.get? b = some o → ((hp.push (kdv_tup [v])).push (excO C hp.objs.size)).get? b = some o := fun b o e => Heap.get?_push_of_some _ (Heap.get?_push_of_some _ e)
  have hget : ((hp.push (kdv_tup [v])).push (excO C hp.objs.size)).get? (hp.objs.size + 1) = some (excO C hp.objs.size) := by heap_get
  have hnx : K.lookup (hp.objs.size + 1) = none := by
    cases e : K.lookup (hp.objs.size + 1) with
    | none => rfl
    | some o =>
      have z : hp.get? (hp.objs.size + 1) = some o := X _ _ e
      exact absurd (Nat.lt_of_succ_lt (Heap.lt_size z)) (Nat.lt_irrefl _)
  refine call_own PySem.F.excBase_ValueError (fun X => refsVE_contains X bm hbm) (X _ _ hC) (looks_findIn X T.iC) (fun self => bind_fn X self T.tC) (xone_size v) ?_
  refine mi_Clash (s := ⟨(hp.push (kdv_tup [v])).push (excO C hp.objs.size), g, dr, tk, os⟩) T noN F (X.keeps k) (hlim.keeps k) hget hnx ?_ fun h' tk' dx ⟨k', hx, dn, dne, hns⟩ => ?_
  · show A.depth + 1 < recursionLimit
    exact hroom
  · have old : ∀ b o, hp.get? b = some o → h'.get? b = some o := fun b o e => k' b o (Nat.ne_of_lt (Nat.lt_succ_of_lt (Heap.lt_size e))) (k b o e)
    have z : hp.objs.size + 1 + 1 ≤ dx := by
      first
        | (simpa only [Heap.size_push] using dn)
        | exact dn
        | (have q := dn; rw [Heap.size_push, Heap.size_push] at q; exact q)
    exact ⟨rfl, hq h' tk' (hp.objs.size + 1) dx ⟨old, Nat.le_succ _, ⟨_, _, hx, rfl, rfl, rfl, rfl⟩, Nat.le_trans (Nat.le_trans (Nat.le_succ _) (Nat.le_succ _)) z, dne, hns⟩⟩
theorem rs_Clash (c : ClsAt K mg "Clash" ["steps"]) (T : RsAt K (He.ga K "Clash") fI) (F : L2.FunD K "__init__" "Clash.__init__" (xiA "steps" p1 p2) (xiB "steps" q1 q2 q3 q4) (xiS "steps") [] [] fI fd) : RaiseIn prog w K mg "Clash" "steps" :=
  ⟨_, c.1, T.kC, c.2.1.hs, c.2.1.ty, fun X hl hr hq => mk_Clash T (c.2.2 _ (List.mem_singleton.mpr rfl)) F X hl hr hq⟩
theorem mi_BadText (T : RsAt K C fI) (noN : findIn K (.ref C) "place" = some none) (F : L2.FunD K "__init__" "BadText.__init__" (xiA "place" p1 p2) (xiB "place" q1 q2 q3 q4) (xiS "place") [] [] fI fd) {x t0 : Addr} {v : Value}
    (X : K.In s.heap) (hlim : s.heap.NoLimit) (hx : s.heap.get? x = some (excO C t0)) (hnx : K.lookup x = none) (hroom : A.depth < recursionLimit)
    (hq : ∀ h' tk dx, XInit "place" s.heap h' x C dx t0 v → R (.ok (.ret .none)) { s with heap := h', toks := tk }) :
    codeAny (model prog w) A (.call (.ref fI) ⟨[.ref x, v], []⟩) R s := by
  have hb := F.bindsN (ps := ["self", "place"]) (fun _ _ _ _ _ _ us hl => match us, hl with | [_, _], _ => rfl) s [.ref x, v] X rfl
  obtain ⟨oc, od, dV, kV, doc, pm, an, cdv, ct, osl, rfl, ho, hcd, _, _⟩ := F.ex
  obtain ⟨nm, q, N, bs, bm, sn, sub, ab, col, dd, k0, k1, k2, k3, k5, hC, hbm⟩ := T.cls
  have hcl : clsIn K C = some { name := nm, bases := bs, mro := .ref C :: bm, ns := N, qualname := q, hasDict := true, slotNames := sn, subclasses := sub, abstract := ab, collection := col, hasDel := false } := by unfold clsIn; rw [hC] <;> rfl
  refine Att.call_fn (binds := [("self", .ref x), ("place", v)]) X hlim ho hcd hroom hb (by first | rfl | decide | with_unfolding_all rfl) (fun s₁ IC => ?_) rfl rfl rfl
  obtain ⟨h₁, tk₁, rfl⟩ := IC.toInCall.same
  have k : ∀ b o, s.heap.get? b = some o → h₁.get? b = some o := IC.toInCall.keep
  have hn := IC.toInCall.ns
  have X₁ : K.In h₁ := X.keeps k
  have hx₁ := k _ _ hx
  show wpAny _ _ (execs _ _) _ _ _
  refine wpAny_execs_cons (plainObj_wpAny_Assign_Attribute ?_)
  refine xldC (v := v) hn (by first | rfl | with_unfolding_all rfl | kernel_rfl) (xldC (v := .ref x) hn (by first | rfl | with_unfolding_all rfl | kernel_rfl) ?_)
  refine set_plain X₁ (ox := excO C t0) (od := none) ⟨hx₁, rfl, rfl, trivial⟩ T.sa ?_
  refine exc_osa X₁ hx₁ hcl (show refsVE (.ref C :: bm) = true from hbm) rfl noN (fun h₃ tk₃ dx k₃ dn dne hx₃ hn₃ => ?_)
  show wpAny _ _ (execs _ _) _ _ _
  have z : s.heap.objs.size < h₁.objs.size := hn.lt
  exact wpAny_execs_nil (hq h₃ tk₃ dx ⟨fun b o hb e => k₃ b o hb (k b o e), hx₃, Nat.le_of_lt (Nat.lt_of_lt_of_le z dn), dne, hn₃⟩)
theorem mk_BadText (T : RsAt K C fI) (noN : findIn K (.ref C) "place" = some none) (F : L2.FunD K "__init__" "BadText.__init__" (xiA "place" p1 p2) (xiB "place" q1 q2 q3 q4) (xiS "place") [] [] fI fd) {v : Value} (X : K.In s.heap) (hlim : s.heap.NoLimit) (hroom : A.depth + 1 < recursionLimit)
    (hq : ∀ h' tk e d, XMade "place" s.heap h' e C d v → R (.ok (.ret (.ref e))) { s with heap := h', toks := tk }) :
    codeAny (model prog w) A (.call (.ref C) ⟨[v], []⟩) R s := by
  obtain ⟨nm, q, N, bs, bm, sn, sub, ab, col, dd, k0, k1, k2, k3, k5, hC, hbm⟩ := T.cls
  obtain ⟨hp, g, dr, tk, os⟩ := s
  have k : ∀ b o, hp.get? b = some o → ((hp.push (kdv_tup [v])).push (excO C hp.objs.size)).get? b = some o := fun b o e => Heap.get?_push_of_some _ (Heap.get?_push_of_some _ e)
  have hget : ((hp.push (kdv_tup [v])).push (excO C hp.objs.size)).get? (hp.objs.size + 1) = some (excO C hp.objs.size) := by heap_get
  have hnx : K.lookup (hp.objs.size + 1) = none := by
    cases e : K.lookup (hp.objs.size + 1) with
    | none => rfl
    | some o =>
      have z : hp.get? (hp.objs.size + 1) = some o := X _ _ e
      exact absurd (Nat.lt_of_succ_lt (Heap.lt_size z)) (Nat.lt_irrefl _)
  refine call_own PySem.F.excBase_ValueError (fun X => refsVE_contains X bm hbm) (X _ _ hC) (looks_findIn X T.iC) (fun self => bind_fn X self T.tC) (xone_size v) ?_
  refine mi_BadText (s := ⟨(hp.push (kdv_tup [v])).push (excO C hp.objs.size), g, dr, tk, os⟩) T noN F (X.keeps k) (hlim.keeps k) hget hnx ?_ fun h' tk' dx ⟨k', hx, dn, dne, hns⟩ => ?_
  · show A.depth + 1 < recursionLimit
    exact hroom
  · have old : ∀ b o, hp.get? b = some o → h'.get? b = some o := fun b o e => k' b o (Nat.ne_of_lt (Nat.lt_succ_of_lt (Heap.lt_size e))) (k b o e)
    have z : hp.objs.size + 1 + 1 ≤ dx := by
      first
        | (simpa only [Heap.size_push] using dn)
        | exact dn
        | (have q := dn; rw [Heap.size_push, Heap.size_push] at q; exact q)
    exact ⟨rfl, hq h' tk' (hp.objs.size + 1) dx ⟨old, Nat.le_succ _, ⟨_, _, hx, rfl, rfl, rfl, rfl⟩, Nat.le_trans (Nat.le_trans (Nat.le_succ _) (Nat.le_succ _)) z, dne, hns⟩⟩
theorem rs_BadText (c : ClsAt K mg "BadText" ["place"]) (T : RsAt K (He.ga K "BadText") fI) (F : L2.FunD K "__init__" "BadText.__init__" (xiA "place" p1 p2) (xiB "place" q1 q2 q3 q4) (xiS "place") [] [] fI fd) : RaiseIn prog w K mg "BadText" "place" :=
  ⟨_, c.1, T.kC, c.2.1.hs, c.2.1.ty, fun X hl hr hq => mk_BadText T (c.2.2 _ (List.mem_singleton.mpr rfl)) F X hl hr hq⟩
theorem mi_BadProgram (T : RsAt K C fI) (noN : findIn K (.ref C) "error" = some none) (F : L2.FunD K "__init__" "BadProgram.__init__" (xiA "error" p1 p2) (xiB "error" q1 q2 q3 q4) (xiS "error") [] [] fI fd) {x t0 : Addr} {v : Value}
    (X : K.In s.heap) (hlim : s.heap.NoLimit) (hx : s.heap.get? x = some (excO C t0)) (hnx : K.lookup x = none) (hroom : A.depth < recursionLimit)
    (hq : ∀ h' tk dx, XInit "error" s.heap h' x C dx t0 v → R (.ok (.ret .none)) { s with heap := h', toks := tk }) :
    codeAny (model prog w) A (.call (.ref fI) ⟨[.ref x, v], []⟩) R s := by
  have hb := F.bindsN (ps := ["self", "error"]) (fun _ _ _ _ _ _ us hl => match us, hl with | [_, _], _ => rfl) s [.ref x, v] X rfl
  obtain ⟨oc, od, dV, kV, doc, pm, an, cdv, ct, osl, rfl, ho, hcd, _, _⟩ := F.ex
  obtain ⟨nm, q, N, bs, bm, sn, sub, ab, col, dd, k0, k1, k2, k3, k5, hC, hbm⟩ := T.cls
  have hcl : clsIn K C = some { name := nm, bases := bs, mro := .ref C :: bm, ns := N, qualname := q, hasDict := true, slotNames := sn, subclasses := sub, abstract := ab, collection := col, hasDel := false } := by unfold clsIn; rw [hC] <;> rfl
  refine Att.call_fn (binds := [("self", .ref x), ("error", v)]) X hlim ho hcd hroom hb (by first | rfl | decide | with_unfolding_all rfl) (fun s₁ IC => ?_) rfl rfl rfl
  obtain ⟨h₁, tk₁, rfl⟩ := IC.toInCall.same
  have k : ∀ b o, s.heap.get? b = some o → h₁.get? b = some o := IC.toInCall.keep
  have hn := IC.toInCall.ns
  have X₁ : K.In h₁ := X.keeps k
  have hx₁ := k _ _ hx
  show wpAny _ _ (execs _ _) _ _ _
  refine wpAny_execs_cons (plainObj_wpAny_Assign_Attribute ?_)
  refine xldC (v := v) hn (by first | rfl | with_unfolding_all rfl | kernel_rfl) (xldC (v := .ref x) hn (by first | rfl | with_unfolding_all rfl | kernel_rfl) ?_)
  refine set_plain X₁ (ox := excO C t0) (od := none) ⟨hx₁, rfl, rfl, trivial⟩ T.sa ?_
  refine exc_osa X₁ hx₁ hcl (show refsVE (.ref C :: bm) = true from hbm) rfl noN (fun h₃ tk₃ dx k₃ dn dne hx₃ hn₃ => ?_)
  show wpAny _ _ (execs _ _) _ _ _
  have z : s.heap.objs.size < h₁.objs.size := hn.lt
  exact wpAny_execs_nil (hq h₃ tk₃ dx ⟨fun b o hb e => k₃ b o hb (k b o e), hx₃, Nat.le_of_lt (Nat.lt_of_lt_of_le z dn), dne, hn₃⟩)
theorem mk_BadProgram (T : RsAt K C fI) (noN : findIn K (.ref C) "error" = some none) (F : L2.FunD K "__init__" "BadProgram.__init__" (xiA "error" p1 p2) (xiB "error" q1 q2 q3 q4) (xiS "error") [] [] fI fd) {v : Value} (X : K.In s.heap) (hlim : s.heap.NoLimit) (hroom : A.depth + 1 < recursionLimit)
    (hq : ∀ h' tk e d, XMade "error" s.heap h' e C d v → R (.ok (.ret (.ref e))) { s with heap := h', toks := tk }) :
    codeAny (model prog w) A (.call (.ref C) ⟨[v], []⟩) R s := by
  obtain ⟨nm, q, N, bs, bm, sn, sub, ab, col, dd, k0, k1, k2, k3, k5, hC, hbm⟩ := T.cls
  obtain ⟨hp, g, dr, tk, os⟩ := s
  have k : ∀ b o, hp.get? b = some o → ((hp.push (kdv_tup [v])).push (excO C hp.objs.size)).get? b = some o := fun b o e => Heap.get?_push_of_some _ (Heap.get?_push_of_some _ e)
  have hget : ((hp.push (kdv_tup [v])).push (excO C hp.objs.size)).get? (hp.objs.size + 1) = some (excO C hp.objs.size) := by heap_get
  have hnx : K.lookup (hp.objs.size + 1) = none := by
    cases e : K.lookup (hp.objs.size + 1) with
    | none => rfl
    | some o =>
      have z : hp.get? (hp.objs.size + 1) = some o := X _ _ e
      exact absurd (Nat.lt_of_succ_lt (Heap.lt_size z)) (Nat.lt_irrefl _)
  refine call_own PySem.F.excBase_ValueError (fun X => refsVE_contains X bm hbm) (X _ _ hC) (looks_findIn X T.iC) (fun self => bind_fn X self T.tC) (xone_size v) ?_
  refine mi_BadProgram (s := ⟨(hp.push (kdv_tup [v])).push (excO C hp.objs.size), g, dr, tk, os⟩) T noN F (X.keeps k) (hlim.keeps k) hget hnx ?_ fun h' tk' dx ⟨k', hx, dn, dne, hns⟩ => ?_
  · show A.depth + 1 < recursionLimit
    exact hroom
  · have old : ∀ b o, hp.get? b = some o → h'.get? b = some o := fun b o e => k' b o (Nat.ne_of_lt (Nat.lt_succ_of_lt (Heap.lt_size e))) (k b o e)
    have z : hp.objs.size + 1 + 1 ≤ dx := by
      first
        | (simpa only [Heap.size_push] using dn)
        | exact dn
        | (have q := dn; rw [Heap.size_push, Heap.size_push] at q; exact q)
    exact ⟨rfl, hq h' tk' (hp.objs.size + 1) dx ⟨old, Nat.le_succ _, ⟨_, _, hx, rfl, rfl, rfl, rfl⟩, Nat.le_trans (Nat.le_trans (Nat.le_succ _) (Nat.le_succ _)) z, dne, hns⟩⟩
theorem rs_BadProgram (c : ClsAt K mg "BadProgram" ["error"]) (T : RsAt K (He.ga K "BadProgram") fI) (F : L2.FunD K "__init__" "BadProgram.__init__" (xiA "error" p1 p2) (xiB "error" q1 q2 q3 q4) (xiS "error") [] [] fI fd) : RaiseIn prog w K mg "BadProgram" "error" :=
  ⟨_, c.1, T.kC, c.2.1.hs, c.2.1.ty, fun X hl hr hq => mk_BadProgram T (c.2.2 _ (List.mem_singleton.mpr rfl)) F X hl hr hq⟩
theorem mi_BadBars (T : RsAt K C fI) (noN : findIn K (.ref C) "value" = some none) (F : L2.FunD K "__init__" "BadBars.__init__" (xiA "value" p1 p2) (xiB "value" q1 q2 q3 q4) (xiS "value") [] [] fI fd) {x t0 : Addr} {v : Value}
    (X : K.In s.heap) (hlim : s.heap.NoLimit) (hx : s.heap.get? x = some (excO C t0)) (hnx : K.lookup x = none) (hroom : A.depth < recursionLimit)
    (hq : ∀ h' tk dx, XInit "value" s.heap h' x C dx t0 v → R (.ok (.ret .none)) { s with heap := h', toks := tk }) :
    codeAny (model prog w) A (.call (.ref fI) ⟨[.ref x, v], []⟩) R s := by
  have hb := F.bindsN (ps := ["self", "value"]) (fun _ _ _ _ _ _ us hl => match us, hl with | [_, _], _ => rfl) s [.ref x, v] X rfl
  obtain ⟨oc, od, dV, kV, doc, pm, an, cdv, ct, osl, rfl, ho, hcd, _, _⟩ := F.ex
  obtain ⟨nm, q, N, bs, bm, sn, sub, ab, col, dd, k0, k1, k2, k3, k5, hC, hbm⟩ := T.cls
  have hcl : clsIn K C = some { name := nm, bases := bs, mro := .ref C :: bm, ns := N, qualname := q, hasDict := true, slotNames := sn, subclasses := sub, abstract := ab, collection := col, hasDel := false } := by unfold clsIn; rw [hC] <;> rfl
  refine Att.call_fn (binds := [("self", .ref x), ("value", v)]) X hlim ho hcd hroom hb (by first | rfl | decide | with_unfolding_all rfl) (fun s₁ IC => ?_) rfl rfl rfl
  obtain ⟨h₁, tk₁, rfl⟩ := IC.toInCall.same
  have k : ∀ b o, s.heap.get? b = some o → h₁.get? b = some o := IC.toInCall.keep
  have hn := IC.toInCall.ns
  have X₁ : K.In h₁ := X.keeps k
  have hx₁ := k _ _ hx
  show wpAny _ _ (execs _ _) _ _ _
  refine wpAny_execs_cons (plainObj_wpAny_Assign_Attribute ?_)
  refine xldC (v := v) hn (by first | rfl | with_unfolding_all rfl | kernel_rfl) (xldC (v := .ref x) hn (by first | rfl | with_unfolding_all rfl | kernel_rfl) ?_)
  refine set_plain X₁ (ox := excO C t0) (od := none) ⟨hx₁, rfl, rfl, trivial⟩ T.sa ?_
  refine exc_osa X₁ hx₁ hcl (show refsVE (.ref C :: bm) = true from hbm) rfl noN (fun h₃ tk₃ dx k₃ dn dne hx₃ hn₃ => ?_)
  show wpAny _ _ (execs _ _) _ _ _
  have z : s.heap.objs.size < h₁.objs.size := hn.lt
  exact wpAny_execs_nil (hq h₃ tk₃ dx ⟨fun b o hb e => k₃ b o hb (k b o e), hx₃, Nat.le_of_lt (Nat.lt_of_lt_of_le z dn), dne, hn₃⟩)
theorem mk_BadBars (T : RsAt K C fI) (noN : findIn K (.ref C) "value" = some none) (F : L2.FunD K "__init__" "BadBars.__init__" (xiA "value" p1 p2) (xiB "value" q1 q2 q3 q4) (xiS "value") [] [] fI fd) {v : Value} (X : K.In s.heap) (hlim : s.heap.NoLimit) (hroom : A.depth + 1 < recursionLimit)
    (hq : ∀ h' tk e d, XMade "value" s.heap h' e C d v → R (.ok (.ret (.ref e))) { s with heap := h', toks := tk }) :
    codeAny (model prog w) A (.call (.ref C) ⟨[v], []⟩) R s := by
  obtain ⟨nm, q, N, bs, bm, sn, sub, ab, col, dd, k0, k1, k2, k3, k5, hC, hbm⟩ := T.cls
  obtain ⟨hp, g, dr, tk, os⟩ := s
  have k : ∀ b o, hp.get? b = some o → ((hp.push (kdv_tup [v])).push (excO C hp.objs.size)).get? b = some o := fun b o e => Heap.get?_push_of_some _ (Heap.get?_push_of_some _ e)
  have hget : ((hp.push (kdv_tup [v])).push (excO C hp.objs.size)).get? (hp.objs.size + 1) = some (excO C hp.objs.size) := by heap_get
  have hnx : K.lookup (hp.objs.size + 1) = none := by
    cases e : K.lookup (hp.objs.size + 1) with
    | none => rfl
    | some o =>
      have z : hp.get? (hp.objs.size + 1) = some o := X _ _ e
      exact absurd (Nat.lt_of_succ_lt (Heap.lt_size z)) (Nat.lt_irrefl _)
  refine call_own PySem.F.excBase_ValueError (fun X => refsVE_contains X bm hbm) (X _ _ hC) (looks_findIn X T.iC) (fun self => bind_fn X self T.tC) (xone_size v) ?_
  refine mi_BadBars (s := ⟨(hp.push (kdv_tup [v])).push (excO C hp.objs.size), g, dr, tk, os⟩) T noN F (X.keeps k) (hlim.keeps k) hget hnx ?_ fun h' tk' dx ⟨k', hx, dn, dne, hns⟩ => ?_
  · show A.depth + 1 < recursionLimit
    exact hroom
  · have old : ∀ b o, hp.get? b = some o → h'.get? b = some o := fun b o e => k' b o (Nat.ne_of_lt (Nat.lt_succ_of_lt (Heap.lt_size e))) (k b o e)
    have z : hp.objs.size + 1 + 1 ≤ dx := by
      first
        | (simpa only [Heap.size_push] using dn)
        | exact dn
        | (have q := dn; rw [Heap.size_push, Heap.size_push] at q; exact q)
    exact ⟨rfl, hq h' tk' (hp.objs.size + 1) dx ⟨old, Nat.le_succ _, ⟨_, _, hx, rfl, rfl, rfl, rfl⟩, Nat.le_trans (Nat.le_trans (Nat.le_succ _) (Nat.le_succ _)) z, dne, hns⟩⟩
theorem rs_BadBars (c : ClsAt K mg "BadBars" ["value"]) (T : RsAt K (He.ga K "BadBars") fI) (F : L2.FunD K "__init__" "BadBars.__init__" (xiA "value" p1 p2) (xiB "value" q1 q2 q3 q4) (xiS "value") [] [] fI fd) : RaiseIn prog w K mg "BadBars" "value" :=
  ⟨_, c.1, T.kC, c.2.1.hs, c.2.1.ty, fun X hl hr hq => mk_BadBars T (c.2.2 _ (List.mem_singleton.mpr rfl)) F X hl hr hq⟩
theorem mi_BadInputs (T : RsAt K C fI) (noN : findIn K (.ref C) "value" = some none) (F : L2.FunD K "__init__" "BadInputs.__init__" (xiA "value" p1 p2) (xiB "value" q1 q2 q3 q4) (xiS "value") [] [] fI fd) {x t0 : Addr} {v : Value}
    (X : K.In s.heap) (hlim : s.heap.NoLimit) (hx : s.heap.get? x = some (excO C t0)) (hnx : K.lookup x = none) (hroom : A.depth < recursionLimit)
    (hq : ∀ h' tk dx, XInit "value" s.heap h' x C dx t0 v → R (.ok (.ret .none)) { s with heap := h', toks := tk }) :
    codeAny (model prog w) A (.call (.ref fI) ⟨[.ref x, v], []⟩) R s := by
  have hb := F.bindsN (ps := ["self", "value"]) (fun _ _ _ _ _ _ us hl => match us, hl with | [_, _], _ => rfl) s [.ref x, v] X rfl
  obtain ⟨oc, od, dV, kV, doc, pm, an, cdv, ct, osl, rfl, ho, hcd, _, _⟩ := F.ex
  obtain ⟨nm, q, N, bs, bm, sn, sub, ab, col, dd, k0, k1, k2, k3, k5, hC, hbm⟩ := T.cls
  have hcl : clsIn K C = some { name := nm, bases := bs, mro := .ref C :: bm, ns := N, qualname := q, hasDict := true, slotNames := sn, subclasses := sub, abstract := ab, collection := col, hasDel := false } := by unfold clsIn; rw [hC] <;> rfl
  refine Att.call_fn (binds := [("self", .ref x), ("value", v)]) X hlim ho hcd hroom hb (by first | rfl | decide | with_unfolding_all rfl) (fun s₁ IC => ?_) rfl rfl rfl
  obtain ⟨h₁, tk₁, rfl⟩ := IC.toInCall.same
  have k : ∀ b o, s.heap.get? b = some o → h₁.get? b = some o := IC.toInCall.keep
  have hn := IC.toInCall.ns
  have X₁ : K.In h₁ := X.keeps k
  have hx₁ := k _ _ hx
  show wpAny _ _ (execs _ _) _ _ _
  refine wpAny_execs_cons (plainObj_wpAny_Assign_Attribute ?_)
  refine xldC (v := v) hn (by first | rfl | with_unfolding_all rfl | kernel_rfl) (xldC (v := .ref x) hn (by first | rfl | with_unfolding_all rfl | kernel_rfl) ?_)
  refine set_plain X₁ (ox := excO C t0) (od := none) ⟨hx₁, rfl, rfl, trivial⟩ T.sa ?_
  refine exc_osa X₁ hx₁ hcl (show refsVE (.ref C :: bm) = true from hbm) rfl noN (fun h₃ tk₃ dx k₃ dn dne hx₃ hn₃ => ?_)
  show wpAny _ _ (execs _ _) _ _ _
  have z : s.heap.objs.size < h₁.objs.size := hn.lt
  exact wpAny_execs_nil (hq h₃ tk₃ dx ⟨fun b o hb e => k₃ b o hb (k b o e), hx₃, Nat.le_of_lt (Nat.lt_of_lt_of_le z dn), dne, hn₃⟩)
theorem mk_BadInputs (T : RsAt K C fI) (noN : findIn K (.ref C) "value" = some none) (F : L2.FunD K "__init__" "BadInputs.__init__" (xiA "value" p1 p2) (xiB "value" q1 q2 q3 q4) (xiS "value") [] [] fI fd) {v : Value} (X : K.In s.heap) (hlim : s.heap.NoLimit) (hroom : A.depth + 1 < recursionLimit)
    (hq : ∀ h' tk e d, XMade "value" s.heap h' e C d v → R (.ok (.ret (.ref e))) { s with heap := h', toks := tk }) :
    codeAny (model prog w) A (.call (.ref C) ⟨[v], []⟩) R s := by
  obtain ⟨nm, q, N, bs, bm, sn, sub, ab, col, dd, k0, k1, k2, k3, k5, hC, hbm⟩ := T.cls
  obtain ⟨hp, g, dr, tk, os⟩ := s
  have k : ∀ b o, hp.get? b = some o → ((hp.push (kdv_tup [v])).push (excO C hp.objs.size)).get? b = some o := fun b o e => Heap.get?_push_of_some _ (Heap.get?_push_of_some _ e)
  have hget : ((hp.push (kdv_tup [v])).push (excO C hp.objs.size)).get? (hp.objs.size + 1) = some (excO C hp.objs.size) := by heap_get
  have hnx : K.lookup (hp.objs.size + 1) = none := by
    cases e : K.lookup (hp.objs.size + 1) with
    | none => rfl
    | some o =>
      have z : hp.get? (hp.objs.size + 1) = some o := X _ _ e
      exact absurd (Nat.lt_of_succ_lt (Heap.lt_size z)) (Nat.lt_irrefl _)
  refine call_own PySem.F.excBase_ValueError (fun X => refsVE_contains X bm hbm) (X _ _ hC) (looks_findIn X T.iC) (fun self => bind_fn X self T.tC) (xone_size v) ?_
  refine mi_BadInputs (s := ⟨(hp.push (kdv_tup [v])).push (excO C hp.objs.size), g, dr, tk, os⟩) T noN F (X.keeps k) (hlim.keeps k) hget hnx ?_ fun h' tk' dx ⟨k', hx, dn, dne, hns⟩ => ?_
  · show A.depth + 1 < recursionLimit
    exact hroom
  · have old : ∀ b o, hp.get? b = some o → h'.get? b = some o := fun b o e => k' b o (Nat.ne_of_lt (Nat.lt_succ_of_lt (Heap.lt_size e))) (k b o e)
    have z : hp.objs.size + 1 + 1 ≤ dx := by
      first
        | (simpa only [Heap.size_push] using dn)
        | exact dn
        | (have q := dn; rw [Heap.size_push, Heap.size_push] at q; exact q)
    exact ⟨rfl, hq h' tk' (hp.objs.size + 1) dx ⟨old, Nat.le_succ _, ⟨_, _, hx, rfl, rfl, rfl, rfl⟩, Nat.le_trans (Nat.le_trans (Nat.le_succ _) (Nat.le_succ _)) z, dne, hns⟩⟩
theorem rs_BadInputs (c : ClsAt K mg "BadInputs" ["value"]) (T : RsAt K (He.ga K "BadInputs") fI) (F : L2.FunD K "__init__" "BadInputs.__init__" (xiA "value" p1 p2) (xiB "value" q1 q2 q3 q4) (xiS "value") [] [] fI fd) : RaiseIn prog w K mg "BadInputs" "value" :=
  ⟨_, c.1, T.kC, c.2.1.hs, c.2.1.ty, fun X hl hr hq => mk_BadInputs T (c.2.2 _ (List.mem_singleton.mpr rfl)) F X hl hr hq⟩
theorem mi_BadPicks (T : RsAt K C fI) (noN : findIn K (.ref C) "value" = some none) (F : L2.FunD K "__init__" "BadPicks.__init__" (xiA "value" p1 p2) (xiB "value" q1 q2 q3 q4) (xiS "value") [] [] fI fd) {x t0 : Addr} {v : Value}
    (X : K.In s.heap) (hlim : s.heap.NoLimit) (hx : s.heap.get? x = some (excO C t0)) (hnx : K.lookup x = none) (hroom : A.depth < recursionLimit)
    (hq : ∀ h' tk dx, XInit "value" s.heap h' x C dx t0 v → R (.ok (.ret .none)) { s with heap := h', toks := tk }) :
    codeAny (model prog w) A (.call (.ref fI) ⟨[.ref x, v], []⟩) R s := by
  have hb := F.bindsN (ps := ["self", "value"]) (fun _ _ _ _ _ _ us hl => match us, hl with | [_, _], _ => rfl) s [.ref x, v] X rfl
  obtain ⟨oc, od, dV, kV, doc, pm, an, cdv, ct, osl, rfl, ho, hcd, _, _⟩ := F.ex
  obtain ⟨nm, q, N, bs, bm, sn, sub, ab, col, dd, k0, k1, k2, k3, k5, hC, hbm⟩ := T.cls
  have hcl : clsIn K C = some { name := nm, bases := bs, mro := .ref C :: bm, ns := N, qualname := q, hasDict := true, slotNames := sn, subclasses := sub, abstract := ab, collection := col, hasDel := false } := by unfold clsIn; rw [hC] <;> rfl
  refine Att.call_fn (binds := [("self", .ref x), ("value", v)]) X hlim ho hcd hroom hb (by first | rfl | decide | with_unfolding_all rfl) (fun s₁ IC => ?_) rfl rfl rfl
  obtain ⟨h₁, tk₁, rfl⟩ := IC.toInCall.same
  have k : ∀ b o, s.heap.get? b = some o → h₁.get? b = some o := IC.toInCall.keep
  have hn := IC.toInCall.ns
  have X₁ : K.In h₁ := X.keeps k
  have hx₁ := k _ _ hx
  show wpAny _ _ (execs _ _) _ _ _
  refine wpAny_execs_cons (plainObj_wpAny_Assign_Attribute ?_)
  refine xldC (v := v) hn (by first | rfl | with_unfolding_all rfl | kernel_rfl) (xldC (v := .ref x) hn (by first | rfl | with_unfolding_all rfl | kernel_rfl) ?_)
  refine set_plain X₁ (ox := excO C t0) (od := none) ⟨hx₁, rfl, rfl, trivial⟩ T.sa ?_
  refine exc_osa X₁ hx₁ hcl (show refsVE (.ref C :: bm) = true from hbm) rfl noN (fun h₃ tk₃ dx k₃ dn dne hx₃ hn₃ => ?_)
  show wpAny _ _ (execs _ _) _ _ _
  have z : s.heap.objs.size < h₁.objs.size := hn.lt
  exact wpAny_execs_nil (hq h₃ tk₃ dx ⟨fun b o hb e => k₃ b o hb (k b o e), hx₃, Nat.le_of_lt (Nat.lt_of_lt_of_le z dn), dne, hn₃⟩)
theorem mk_BadPicks (T : RsAt K C fI) (noN : findIn K (.ref C) "value" = some none) (F : L2.FunD K "__init__" "BadPicks.__init__" (xiA "value" p1 p2) (xiB "value" q1 q2 q3 q4) (xiS "value") [] [] fI fd) {v : Value} (X : K.In s.heap) (hlim : s.heap.NoLimit) (hroom : A.depth + 1 < recursionLimit)
    (hq : ∀ h' tk e d, XMade "value" s.heap h' e C d v → R (.ok (.ret (.ref e))) { s with heap := h', toks := tk }) :
    codeAny (model prog w) A (.call (.ref C) ⟨[v], []⟩) R s := by
  obtain ⟨nm, q, N, bs, bm, sn, sub, ab, col, dd, k0, k1, k2, k3, k5, hC, hbm⟩ := T.cls
  obtain ⟨hp, g, dr, tk, os⟩ := s
  have k : ∀ b o, hp.get? b = some o → ((hp.push (kdv_tup [v])).push (excO C hp.objs.size)).get? b = some o := fun b o e => Heap.get?_push_of_some _ (Heap.get?_push_of_some _ e)
  have hget : ((hp.push (kdv_tup [v])).push (excO C hp.objs.size)).get? (hp.objs.size + 1) = some (excO C hp.objs.size) := by heap_get
  have hnx : K.lookup (hp.objs.size + 1) = none := by
    cases e : K.lookup (hp.objs.size + 1) with
    | none => rfl
    | some o =>
      have z : hp.get? (hp.objs.size + 1) = some o := X _ _ e
      exact absurd (Nat.lt_of_succ_lt (Heap.lt_size z)) (Nat.lt_irrefl _)
  refine call_own PySem.F.excBase_ValueError (fun X => refsVE_contains X bm hbm) (X _ _ hC) (looks_findIn X T.iC) (fun self => bind_fn X self T.tC) (xone_size v) ?_
  refine mi_BadPicks (s := ⟨(hp.push (kdv_tup [v])).push (excO C hp.objs.size), g, dr, tk, os⟩) T noN F (X.keeps k) (hlim.keeps k) hget hnx ?_ fun h' tk' dx ⟨k', hx, dn, dne, hns⟩ => ?_
  · show A.depth + 1 < recursionLimit
    exact hroom
  · have old : ∀ b o, hp.get? b = some o → h'.get? b = some o := fun b o e => k' b o (Nat.ne_of_lt (Nat.lt_succ_of_lt (Heap.lt_size e))) (k b o e)
    have z : hp.objs.size + 1 + 1 ≤ dx := by
      first
        | (simpa only [Heap.size_push] using dn)
        | exact dn
        | (have q := dn; rw [Heap.size_push, Heap.size_push] at q; exact q)
    exact ⟨rfl, hq h' tk' (hp.objs.size + 1) dx ⟨old, Nat.le_succ _, ⟨_, _, hx, rfl, rfl, rfl, rfl⟩, Nat.le_trans (Nat.le_trans (Nat.le_succ _) (Nat.le_succ _)) z, dne, hns⟩⟩
theorem rs_BadPicks (c : ClsAt K mg "BadPicks" ["value"]) (T : RsAt K (He.ga K "BadPicks") fI) (F : L2.FunD K "__init__" "BadPicks.__init__" (xiA "value" p1 p2) (xiB "value" q1 q2 q3 q4) (xiS "value") [] [] fI fd) : RaiseIn prog w K mg "BadPicks" "value" :=
  ⟨_, c.1, T.kC, c.2.1.hs, c.2.1.ty, fun X hl hr hq => mk_BadPicks T (c.2.2 _ (List.mem_singleton.mpr rfl)) F X hl hr hq⟩
theorem mi_NoTest (T : RsAt K C fI) (noN : findIn K (.ref C) "place" = some none) (F : L2.FunD K "__init__" "NoTest.__init__" (xiA "place" p1 p2) (xiB "place" q1 q2 q3 q4) (xiS "place") [] [] fI fd) {x t0 : Addr} {v : Value}
    (X : K.In s.heap) (hlim : s.heap.NoLimit) (hx : s.heap.get? x = some (excO C t0)) (hnx : K.lookup x = none) (hroom : A.depth < recursionLimit)
    (hq : ∀ h' tk dx, XInit "place" s.heap h' x C dx t0 v → R (.ok (.ret .none)) { s with heap := h', toks := tk }) :
    codeAny (model prog w) A (.call (.ref fI) ⟨[.ref x, v], []⟩) R s := by
  have hb := F.bindsN (ps := ["self", "place"]) (fun _ _ _ _ _ _ us hl => match us, hl with | [_, _], _ => rfl) s [.ref x, v] X rfl
  obtain ⟨oc, od, dV, kV, doc, pm, an, cdv, ct, osl, rfl, ho, hcd, _, _⟩ := F.ex
  obtain ⟨nm, q, N, bs, bm, sn, sub, ab, col, dd, k0, k1, k2, k3, k5, hC, hbm⟩ := T.cls
  have hcl : clsIn K C = some { name := nm, bases := bs, mro := .ref C :: bm, ns := N, qualname := q, hasDict := true, slotNames := sn, subclasses := sub, abstract := ab, collection := col, hasDel := false } := by unfold clsIn; rw [hC] <;> rfl
  refine Att.call_fn (binds := [("self", .ref x), ("place", v)]) X hlim ho hcd hroom hb (by first | rfl | decide | with_unfolding_all rfl) (fun s₁ IC => ?_) rfl rfl rfl
  obtain ⟨h₁, tk₁, rfl⟩ := IC.toInCall.same
  have k : ∀ b o, s.heap.get? b = some o → h₁.get? b = some o := IC.toInCall.keep
  have hn := IC.toInCall.ns
  have X₁ : K.In h₁ := X.keeps k
  have hx₁ := k _ _ hx
  show wpAny _ _ (execs _ _) _ _ _
  refine wpAny_execs_cons (plainObj_wpAny_Assign_Attribute ?_)
  refine xldC (v := v) hn (by first | rfl | with_unfolding_all rfl | kernel_rfl) (xldC (v := .ref x) hn (by first | rfl | with_unfolding_all rfl | kernel_rfl) ?_)
  refine set_plain X₁ (ox := excO C t0) (od := none) ⟨hx₁, rfl, rfl, trivial⟩ T.sa ?_
  refine exc_osa X₁ hx₁ hcl (show refsVE (.ref C :: bm) = true from hbm) rfl noN (fun h₃ tk₃ dx k₃ dn dne hx₃ hn₃ => ?_)
  show wpAny _ _ (execs _ _) _ _ _
  have z : s.heap.objs.size < h₁.objs.size := hn.lt
  exact wpAny_execs_nil (hq h₃ tk₃ dx ⟨fun b o hb e => k₃ b o hb (k b o e), hx₃, Nat.le_of_lt (Nat.lt_of_lt_of_le z dn), dne, hn₃⟩)
theorem mk_NoTest (T : RsAt K C fI) (noN : findIn K (.ref C) "place" = some none) (F : L2.FunD K "__init__" "NoTest.__init__" (xiA "place" p1 p2) (xiB "place" q1 q2 q3 q4) (xiS "place") [] [] fI fd) {v : Value} (X : K.In s.heap) (hlim : s.heap.NoLimit) (hroom : A.depth + 1 < recursionLimit)
    (hq : ∀ h' tk e d, XMade "place" s.heap h' e C d v → R (.ok (.ret (.ref e))) { s with heap := h', toks := tk }) :
    codeAny (model prog w) A (.call (.ref C) ⟨[v], []⟩) R s := by
  obtain ⟨nm, q, N, bs, bm, sn, sub, ab, col, dd, k0, k1, k2, k3, k5, hC, hbm⟩ := T.cls
  obtain ⟨hp, g, dr, tk, os⟩ := s
  have k : ∀ b o, hp.get? b = some o → ((hp.push (kdv_tup [v])).push (excO C hp.objs.size)).get? b = some o := fun b o e => Heap.get?_push_of_some _ (Heap.get?_push_of_some _ e)
  have hget : ((hp.push (kdv_tup [v])).push (excO C hp.objs.size)).get? (hp.objs.size + 1) = some (excO C hp.objs.size) := by heap_get
  have hnx : K.lookup (hp.objs.size + 1) = none := by
    cases e : K.lookup (hp.objs.size + 1) with
    | none => rfl
    | some o =>
      have z : hp.get? (hp.objs.size + 1) = some o := X _ _ e
      exact absurd (Nat.lt_of_succ_lt (Heap.lt_size z)) (Nat.lt_irrefl _)
  refine call_own PySem.F.excBase_ValueError (fun X => refsVE_contains X bm hbm) (X _ _ hC) (looks_findIn X T.iC) (fun self => bind_fn X self T.tC) (xone_size v) ?_
  refine mi_NoTest (s := ⟨(hp.push (kdv_tup [v])).push (excO C hp.objs.size), g, dr, tk, os⟩) T noN F (X.keeps k) (hlim.keeps k) hget hnx ?_ fun h' tk' dx ⟨k', hx, dn, dne, hns⟩ => ?_
  · show A.depth + 1 < recursionLimit
    exact hroom
  · have old : ∀ b o, hp.get? b = some o → h'.get? b = some o := fun b o e => k' b o (Nat.ne_of_lt (Nat.lt_succ_of_lt (Heap.lt_size e))) (k b o e)
    have z : hp.objs.size + 1 + 1 ≤ dx := by
      first
        | (simpa only [Heap.size_push] using dn)
        | exact dn
        | (have q := dn; rw [Heap.size_push, Heap.size_push] at q; exact q)
    exact ⟨rfl, hq h' tk' (hp.objs.size + 1) dx ⟨old, Nat.le_succ _, ⟨_, _, hx, rfl, rfl, rfl, rfl⟩, Nat.le_trans (Nat.le_trans (Nat.le_succ _) (Nat.le_succ _)) z, dne, hns⟩⟩
theorem rs_NoTest (c : ClsAt K mg "NoTest" ["place"]) (T : RsAt K (He.ga K "NoTest") fI) (F : L2.FunD K "__init__" "NoTest.__init__" (xiA "place" p1 p2) (xiB "place" q1 q2 q3 q4) (xiS "place") [] [] fI fd) : RaiseIn prog w K mg "NoTest" "place" :=
  ⟨_, c.1, T.kC, c.2.1.hs, c.2.1.ty, fun X hl hr hq => mk_NoTest T (c.2.2 _ (List.mem_singleton.mpr rfl)) F X hl hr hq⟩
theorem mi_NoPin (T : RsAt K C fI) (noN : findIn K (.ref C) "place" = some none) (F : L2.FunD K "__init__" "NoPin.__init__" (xiA "place" p1 p2) (xiB "place" q1 q2 q3 q4) (xiS "place") [] [] fI fd) {x t0 : Addr} {v : Value}
    (X : K.In s.heap) (hlim : s.heap.NoLimit) (hx : s.heap.get? x = some (excO C t0)) (hnx : K.lookup x = none) (hroom : A.depth < recursionLimit)
    (hq : ∀ h' tk dx, XInit "place" s.heap h' x C dx t0 v → R (.ok (.ret .none)) { s with heap := h', toks := tk }) :
    codeAny (model prog w) A (.call (.ref fI) ⟨[.ref x, v], []⟩) R s := by
  have hb := F.bindsN (ps := ["self", "place"]) (fun _ _ _ _ _ _ us hl => match us, hl with | [_, _], _ => rfl) s [.ref x, v] X rfl
  obtain ⟨oc, od, dV, kV, doc, pm, an, cdv, ct, osl, rfl, ho, hcd, _, _⟩ := F.ex
  obtain ⟨nm, q, N, bs, bm, sn, sub, ab, col, dd, k0, k1, k2, k3, k5, hC, hbm⟩ := T.cls
  have hcl : clsIn K C = some { name := nm, bases := bs, mro := .ref C :: bm, ns := N, qualname := q, hasDict := true, slotNames := sn, subclasses := sub, abstract := ab, collection := col, hasDel := false } := by unfold clsIn; rw [hC] <;> rfl
  refine Att.call_fn (binds := [("self", .ref x), ("place", v)]) X hlim ho hcd hroom hb (by first | rfl | decide | with_unfolding_all rfl) (fun s₁ IC => ?_) rfl rfl rfl
  obtain ⟨h₁, tk₁, rfl⟩ := IC.toInCall.same
  have k : ∀ b o, s.heap.get? b = some o → h₁.get? b = some o := IC.toInCall.keep
  have hn := IC.toInCall.ns
  have X₁ : K.In h₁ := X.keeps k
  have hx₁ := k _ _ hx
  show wpAny _ _ (execs _ _) _ _ _
  refine wpAny_execs_cons (plainObj_wpAny_Assign_Attribute ?_)
  refine xldC (v := v) hn (by first | rfl | with_unfolding_all rfl | kernel_rfl) (xldC (v := .ref x) hn (by first | rfl | with_unfolding_all rfl | kernel_rfl) ?_)
  refine set_plain X₁ (ox := excO C t0) (od := none) ⟨hx₁, rfl, rfl, trivial⟩ T.sa ?_
  refine exc_osa X₁ hx₁ hcl (show refsVE (.ref C :: bm) = true from hbm) rfl noN (fun h₃ tk₃ dx k₃ dn dne hx₃ hn₃ => ?_)
  show wpAny _ _ (execs _ _) _ _ _
  have z : s.heap.objs.size < h₁.objs.size := hn.lt
  exact wpAny_execs_nil (hq h₃ tk₃ dx ⟨fun b o hb e => k₃ b o hb (k b o e), hx₃, Nat.le_of_lt (Nat.lt_of_lt_of_le z dn), dne, hn₃⟩)
theorem mk_NoPin (T : RsAt K C fI) (noN : findIn K (.ref C) "place" = some none) (F : L2.FunD K "__init__" "NoPin.__init__" (xiA "place" p1 p2) (xiB "place" q1 q2 q3 q4) (xiS "place") [] [] fI fd) {v : Value} (X : K.In s.heap) (hlim : s.heap.NoLimit) (hroom : A.depth + 1 < recursionLimit)
    (hq : ∀ h' tk e d, XMade "place" s.heap h' e C d v → R (.ok (.ret (.ref e))) { s with heap := h', toks := tk }) :
    codeAny (model prog w) A (.call (.ref C) ⟨[v], []⟩) R s := by
  obtain ⟨nm, q, N, bs, bm, sn, sub, ab, col, dd, k0, k1, k2, k3, k5, hC, hbm⟩ := T.cls
  obtain ⟨hp, g, dr, tk, os⟩ := s
  have k : ∀ b o, hp.get? b = some o → ((hp.push (kdv_tup [v])).push (excO C hp.objs.size)).get? b = some o := fun b o e => Heap.get?_push_of_some _ (Heap.get?_push_of_some _ e)
  have hget : ((hp.push (kdv_tup [v])).push (excO C hp.objs.size)).get? (hp.objs.size + 1) = some (excO C hp.objs.size) := by heap_get
  have hnx : K.lookup (hp.objs.size + 1) = none := by
    cases e : K.lookup (hp.objs.size + 1) with
    | none => rfl
    | some o =>
      have z : hp.get? (hp.objs.size + 1) = some o := X _ _ e
      exact absurd (Nat.lt_of_succ_lt (Heap.lt_size z)) (Nat.lt_irrefl _)
  refine call_own PySem.F.excBase_ValueError (fun X => refsVE_contains X bm hbm) (X _ _ hC) (looks_findIn X T.iC) (fun self => bind_fn X self T.tC) (xone_size v) ?_
  refine mi_NoPin (s := ⟨(hp.push (kdv_tup [v])).push (excO C hp.objs.size), g, dr, tk, os⟩) T noN F (X.keeps k) (hlim.keeps k) hget hnx ?_ fun h' tk' dx ⟨k', hx, dn, dne, hns⟩ => ?_
  · show A.depth + 1 < recursionLimit
    exact hroom
  · have old : ∀ b o, hp.get? b = some o → h'.get? b = some o := fun b o e => k' b o (Nat.ne_of_lt (Nat.lt_succ_of_lt (Heap.lt_size e))) (k b o e)
    have z : hp.objs.size + 1 + 1 ≤ dx := by
      first
        | (simpa only [Heap.size_push] using dn)
        | exact dn
        | (have q := dn; rw [Heap.size_push, Heap.size_push] at q; exact q)
    exact ⟨rfl, hq h' tk' (hp.objs.size + 1) dx ⟨old, Nat.le_succ _, ⟨_, _, hx, rfl, rfl, rfl, rfl⟩, Nat.le_trans (Nat.le_trans (Nat.le_succ _) (Nat.le_succ _)) z, dne, hns⟩⟩
theorem rs_NoPin (c : ClsAt K mg "NoPin" ["place"]) (T : RsAt K (He.ga K "NoPin") fI) (F : L2.FunD K "__init__" "NoPin.__init__" (xiA "place" p1 p2) (xiB "place" q1 q2 q3 q4) (xiS "place") [] [] fI fd) : RaiseIn prog w K mg "NoPin" "place" :=
  ⟨_, c.1, T.kC, c.2.1.hs, c.2.1.ty, fun X hl hr hq => mk_NoPin T (c.2.2 _ (List.mem_singleton.mpr rfl)) F X hl hr hq⟩
theorem mi_NoMaking (T : RsAt K C fI) (noN : findIn K (.ref C) "place" = some none) (F : L2.FunD K "__init__" "NoMaking.__init__" (xiA "place" p1 p2) (xiB "place" q1 q2 q3 q4) (xiS "place") [] [] fI fd) {x t0 : Addr} {v : Value}
    (X : K.In s.heap) (hlim : s.heap.NoLimit) (hx : s.heap.get? x = some (excO C t0)) (hnx : K.lookup x = none) (hroom : A.depth < recursionLimit)
    (hq : ∀ h' tk dx, XInit "place" s.heap h' x C dx t0 v → R (.ok (.ret .none)) { s with heap := h', toks := tk }) :
    codeAny (model prog w) A (.call (.ref fI) ⟨[.ref x, v], []⟩) R s := by
  have hb := F.bindsN (ps := ["self", "place"]) (fun _ _ _ _ _ _ us hl => match us, hl with | [_, _], _ => rfl) s [.ref x, v] X rfl
  obtain ⟨oc, od, dV, kV, doc, pm, an, cdv, ct, osl, rfl, ho, hcd, _, _⟩ := F.ex
  obtain ⟨nm, q, N, bs, bm, sn, sub, ab, col, dd, k0, k1, k2, k3, k5, hC, hbm⟩ := T.cls
  have hcl : clsIn K C = some { name := nm, bases := bs, mro := .ref C :: bm, ns := N, qualname := q, hasDict := true, slotNames := sn, subclasses := sub, abstract := ab, collection := col, hasDel := false } := by unfold clsIn; rw [hC] <;> rfl
  refine Att.call_fn (binds := [("self", .ref x), ("place", v)]) X hlim ho hcd hroom hb (by first | rfl | decide | with_unfolding_all rfl) (fun s₁ IC => ?_) rfl rfl rfl
  obtain ⟨h₁, tk₁, rfl⟩ := IC.toInCall.same
  have k : ∀ b o, s.heap.get? b = some o → h₁.get? b = some o := IC.toInCall.keep
  have hn := IC.toInCall.ns
  have X₁ : K.In h₁ := X.keeps k
  have hx₁ := k _ _ hx
  show wpAny _ _ (execs _ _) _ _ _
  refine wpAny_execs_cons (plainObj_wpAny_Assign_Attribute ?_)
  refine xldC (v := v) hn (by first | rfl | with_unfolding_all rfl | kernel_rfl) (xldC (v := .ref x) hn (by first | rfl | with_unfolding_all rfl | kernel_rfl) ?_)
  refine set_plain X₁ (ox := excO C t0) (od := none) ⟨hx₁, rfl, rfl, trivial⟩ T.sa ?_
  refine exc_osa X₁ hx₁ hcl (show refsVE (.ref C :: bm) = true from hbm) rfl noN (fun h₃ tk₃ dx k₃ dn dne hx₃ hn₃ => ?_)
  show wpAny _ _ (execs _ _) _ _ _
  have z : s.heap.objs.size < h₁.objs.size := hn.lt
  exact wpAny_execs_nil (hq h₃ tk₃ dx ⟨fun b o hb e => k₃ b o hb (k b o e), hx₃, Nat.le_of_lt (Nat.lt_of_lt_of_le z dn), dne, hn₃⟩)
theorem mk_NoMaking (T : RsAt K C fI) (noN : findIn K (.ref C) "place" = some none) (F : L2.FunD K "__init__" "NoMaking.__init__" (xiA "place" p1 p2) (xiB "place" q1 q2 q3 q4) (xiS "place") [] [] fI fd) {v : Value} (X : K.In s.heap) (hlim : s.heap.NoLimit) (hroom : A.depth + 1 < recursionLimit)
    (hq : ∀ h' tk e d, XMade "place" s.heap h' e C d v → R (.ok (.ret (.ref e))) { s with heap := h', toks := tk }) :
    codeAny (model prog w) A (.call (.ref C) ⟨[v], []⟩) R s := by
  obtain ⟨nm, q, N, bs, bm, sn, sub, ab, col, dd, k0, k1, k2, k3, k5, hC, hbm⟩ := T.cls
  obtain ⟨hp, g, dr, tk, os⟩ := s
  have k : ∀ b o, hp.get? b = some o → ((hp.push (kdv_tup [v])).push (excO C hp.objs.size)).get? b = some o := fun b o e => Heap.get?_push_of_some _ (Heap.get?_push_of_some _ e)
  have hget : ((hp.push (kdv_tup [v])).push (excO C hp.objs.size)).get? (hp.objs.size + 1) = some (excO C hp.objs.size) := by heap_get
  have hnx : K.lookup (hp.objs.size + 1) = none := by
    cases e : K.lookup (hp.objs.size + 1) with
    | none => rfl
    | some o =>
      have z : hp.get? (hp.objs.size + 1) = some o := X _ _ e
      exact absurd (Nat.lt_of_succ_lt (Heap.lt_size z)) (Nat.lt_irrefl _)
  refine call_own PySem.F.excBase_ValueError (fun X => refsVE_contains X bm hbm) (X _ _ hC) (looks_findIn X T.iC) (fun self => bind_fn X self T.tC) (xone_size v) ?_
  refine mi_NoMaking (s := ⟨(hp.push (kdv_tup [v])).push (excO C hp.objs.size), g, dr, tk, os⟩) T noN F (X.keeps k) (hlim.keeps k) hget hnx ?_ fun h' tk' dx ⟨k', hx, dn, dne, hns⟩ => ?_
  · show A.depth + 1 < recursionLimit
    exact hroom
  · have old : ∀ b o, hp.get? b = some o → h'.get? b = some o := fun b o e => k' b o (Nat.ne_of_lt (Nat.lt_succ_of_lt (Heap.lt_size e))) (k b o e)
    have z : hp.objs.size + 1 + 1 ≤ dx := by
      first
        | (simpa only [Heap.size_push] using dn)
        | exact dn
        | (have q := dn; rw [Heap.size_push, Heap.size_push] at q; exact q)
    exact ⟨rfl, hq h' tk' (hp.objs.size + 1) dx ⟨old, Nat.le_succ _, ⟨_, _, hx, rfl, rfl, rfl, rfl⟩, Nat.le_trans (Nat.le_trans (Nat.le_succ _) (Nat.le_succ _)) z, dne, hns⟩⟩
theorem rs_NoMaking (c : ClsAt K mg "NoMaking" ["place"]) (T : RsAt K (He.ga K "NoMaking") fI) (F : L2.FunD K "__init__" "NoMaking.__init__" (xiA "place" p1 p2) (xiB "place" q1 q2 q3 q4) (xiS "place") [] [] fI fd) : RaiseIn prog w K mg "NoMaking" "place" :=
  ⟨_, c.1, T.kC, c.2.1.hs, c.2.1.ty, fun X hl hr hq => mk_NoMaking T (c.2.2 _ (List.mem_singleton.mpr rfl)) F X hl hr hq⟩
theorem mi_BarThere (T : RsAt K C fI) (noN : findIn K (.ref C) "place" = some none) (F : L2.FunD K "__init__" "BarThere.__init__" (xiA "place" p1 p2) (xiB "place" q1 q2 q3 q4) (xiS "place") [] [] fI fd) {x t0 : Addr} {v : Value}
    (X : K.In s.heap) (hlim : s.heap.NoLimit) (hx : s.heap.get? x = some (excO C t0)) (hnx : K.lookup x = none) (hroom : A.depth < recursionLimit)
    (hq : ∀ h' tk dx, XInit "place" s.heap h' x C dx t0 v → R (.ok (.ret .none)) { s with heap := h', toks := tk }) :
    codeAny (model prog w) A (.call (.ref fI) ⟨[.ref x, v], []⟩) R s := by
  have hb := F.bindsN (ps := ["self", "place"]) (fun _ _ _ _ _ _ us hl => match us, hl with | [_, _], _ => rfl) s [.ref x, v] X rfl
  obtain ⟨oc, od, dV, kV, doc, pm, an, cdv, ct, osl, rfl, ho, hcd, _, _⟩ := F.ex
  obtain ⟨nm, q, N, bs, bm, sn, sub, ab, col, dd, k0, k1, k2, k3, k5, hC, hbm⟩ := T.cls
  have hcl : clsIn K C = some { name := nm, bases := bs, mro := .ref C :: bm, ns := N, qualname := q, hasDict := true, slotNames := sn, subclasses := sub, abstract := ab, collection := col, hasDel := false } := by unfold clsIn; rw [hC] <;> rfl
  refine Att.call_fn (binds := [("self", .ref x), ("place", v)]) X hlim ho hcd hroom hb (by first | rfl | decide | with_unfolding_all rfl) (fun s₁ IC => ?_) rfl rfl rfl
  obtain ⟨h₁, tk₁, rfl⟩ := IC.toInCall.same
  have k : ∀ b o, s.heap.get? b = some o → h₁.get? b = some o := IC.toInCall.keep
  have hn := IC.toInCall.ns
  have X₁ : K.In h₁ := X.keeps k
  have hx₁ := k _ _ hx
  show wpAny _ _ (execs _ _) _ _ _
  refine wpAny_execs_cons (plainObj_wpAny_Assign_Attribute ?_)
  refine xldC (v := v) hn (by first | rfl | with_unfolding_all rfl | kernel_rfl) (xldC (v := .ref x) hn (by first | rfl | with_unfolding_all rfl | kernel_rfl) ?_)
  refine set_plain X₁ (ox := excO C t0) (od := none) ⟨hx₁, rfl, rfl, trivial⟩ T.sa ?_
  refine exc_osa X₁ hx₁ hcl (show refsVE (.ref C :: bm) = true from hbm) rfl noN (fun h₃ tk₃ dx k₃ dn dne hx₃ hn₃ => ?_)
  show wpAny _ _ (execs _ _) _ _ _
  have z : s.heap.objs.size < h₁.objs.size := hn.lt
  exact wpAny_execs_nil (hq h₃ tk₃ dx ⟨fun b o hb e => k₃ b o hb (k b o e), hx₃, Nat.le_of_lt (Nat.lt_of_lt_of_le z dn), dne, hn₃⟩)
theorem mk_BarThere (T : RsAt K C fI) (noN : findIn K (.ref C) "place" = some none) (F : L2.FunD K "__init__" "BarThere.__init__" (xiA "place" p1 p2) (xiB "place" q1 q2 q3 q4) (xiS "place") [] [] fI fd) {v : Value} (X : K.In s.heap) (hlim : s.heap.NoLimit) (hroom : A.depth + 1 < recursionLimit)
    (hq : ∀ h' tk e d, XMade "place" s.heap h' e C d v → R (.ok (.ret (.ref e))) { s with heap := h', toks := tk }) :
    codeAny (model prog w) A (.call (.ref C) ⟨[v], []⟩) R s := by
  obtain ⟨nm, q, N, bs, bm, sn, sub, ab, col, dd, k0, k1, k2, k3, k5, hC, hbm⟩ := T.cls
  obtain ⟨hp, g, dr, tk, os⟩ := s
  have k : ∀ b o, hp.get? b = some o → ((hp.push (kdv_tup [v])).push (excO C hp.objs.size)).get? b = some o := fun b o e => Heap.get?_push_of_some _ (Heap.get?_push_of_some _ e)
  have hget : ((hp.push (kdv_tup [v])).push (excO C hp.objs.size)).get? (hp.objs.size + 1) = some (excO C hp.objs.size) := by heap_get
  have hnx : K.lookup (hp.objs.size + 1) = none := by
    cases e : K.lookup (hp.objs.size + 1) with
    | none => rfl
    | some o =>
      have z : hp.get? (hp.objs.size + 1) = some o := X _ _ e
      exact absurd (Nat.lt_of_succ_lt (Heap.lt_size z)) (Nat.lt_irrefl _)
  refine call_own PySem.F.excBase_ValueError (fun X => refsVE_contains X bm hbm) (X _ _ hC) (looks_findIn X T.iC) (fun self => bind_fn X self T.tC) (xone_size v) ?_
  refine mi_BarThere (s := ⟨(hp.push (kdv_tup [v])).push (excO C hp.objs.size), g, dr, tk, os⟩) T noN F (X.keeps k) (hlim.keeps k) hget hnx ?_ fun h' tk' dx ⟨k', hx, dn, dne, hns⟩ => ?_
  · show A.depth + 1 < recursionLimit
    exact hroom
  · have old : ∀ b o, hp.get? b = some o → h'.get? b = some o := fun b o e => k' b o (Nat.ne_of_lt (Nat.lt_succ_of_lt (Heap.lt_size e))) (k b o e)
    have z : hp.objs.size + 1 + 1 ≤ dx := by
      first
        | (simpa only [Heap.size_push] using dn)
        | exact dn
        | (have q := dn; rw [Heap.size_push, Heap.size_push] at q; exact q)
    exact ⟨rfl, hq h' tk' (hp.objs.size + 1) dx ⟨old, Nat.le_succ _, ⟨_, _, hx, rfl, rfl, rfl, rfl⟩, Nat.le_trans (Nat.le_trans (Nat.le_succ _) (Nat.le_succ _)) z, dne, hns⟩⟩
theorem rs_BarThere (c : ClsAt K mg "BarThere" ["place"]) (T : RsAt K (He.ga K "BarThere") fI) (F : L2.FunD K "__init__" "BarThere.__init__" (xiA "place" p1 p2) (xiB "place" q1 q2 q3 q4) (xiS "place") [] [] fI fd) : RaiseIn prog w K mg "BarThere" "place" :=
  ⟨_, c.1, T.kC, c.2.1.hs, c.2.1.ty, fun X hl hr hq => mk_BarThere T (c.2.2 _ (List.mem_singleton.mpr rfl)) F X hl hr hq⟩
theorem mi_NoBar (T : RsAt K C fI) (noN : findIn K (.ref C) "place" = some none) (F : L2.FunD K "__init__" "NoBar.__init__" (xiA "place" p1 p2) (xiB "place" q1 q2 q3 q4) (xiS "place") [] [] fI fd) {x t0 : Addr} {v : Value}
    (X : K.In s.heap) (hlim : s.heap.NoLimit) (hx : s.heap.get? x = some (excO C t0)) (hnx : K.lookup x = none) (hroom : A.depth < recursionLimit)
    (hq : ∀ h' tk dx, XInit "place" s.heap h' x C dx t0 v → R (.ok (.ret .none)) { s with heap := h', toks := tk }) :
    codeAny (model prog w) A (.call (.ref fI) ⟨[.ref x, v], []⟩) R s := by
  have hb := F.bindsN (ps := ["self", "place"]) (fun _ _ _ _ _ _ us hl => match us, hl with | [_, _], _ => rfl) s [.ref x, v] X rfl
  obtain ⟨oc, od, dV, kV, doc, pm, an, cdv, ct, osl, rfl, ho, hcd, _, _⟩ := F.ex
  obtain ⟨nm, q, N, bs, bm, sn, sub, ab, col, dd, k0, k1, k2, k3, k5, hC, hbm⟩ := T.cls
  have hcl : clsIn K C = some { name := nm, bases := bs, mro := .ref C :: bm, ns := N, qualname := q, hasDict := true, slotNames := sn, subclasses := sub, abstract := ab, collection := col, hasDel := false } := by unfold clsIn; rw [hC] <;> rfl
  refine Att.call_fn (binds := [("self", .ref x), ("place", v)]) X hlim ho hcd hroom hb (by first | rfl | decide | with_unfolding_all rfl) (fun s₁ IC => ?_) rfl rfl rfl
  obtain ⟨h₁, tk₁, rfl⟩ := IC.toInCall.same
  have k : ∀ b o, s.heap.get? b = some o → h₁.get? b = some o := IC.toInCall.keep
  have hn := IC.toInCall.ns
  have X₁ : K.In h₁ := X.keeps k
  have hx₁ := k _ _ hx
  show wpAny _ _ (execs _ _) _ _ _
  refine wpAny_execs_cons (plainObj_wpAny_Assign_Attribute ?_)
  refine xldC (v := v) hn (by first | rfl | with_unfolding_all rfl | kernel_rfl) (xldC (v := .ref x) hn (by first | rfl | with_unfolding_all rfl | kernel_rfl) ?_)
  refine set_plain X₁ (ox := excO C t0) (od := none) ⟨hx₁, rfl, rfl, trivial⟩ T.sa ?_
  refine exc_osa X₁ hx₁ hcl (show refsVE (.ref C :: bm) = true from hbm) rfl noN (fun h₃ tk₃ dx k₃ dn dne hx₃ hn₃ => ?_)
  show wpAny _ _ (execs _ _) _ _ _
  have z : s.heap.objs.size < h₁.objs.size := hn.lt
  exact wpAny_execs_nil (hq h₃ tk₃ dx ⟨fun b o hb e => k₃ b o hb (k b o e), hx₃, Nat.le_of_lt (Nat.lt_of_lt_of_le z dn), dne, hn₃⟩)
theorem mk_NoBar (T : RsAt K C fI) (noN : findIn K (.ref C) "place" = some none) (F : L2.FunD K "__init__" "NoBar.__init__" (xiA "place" p1 p2) (xiB "place" q1 q2 q3 q4) (xiS "place") [] [] fI fd) {v : Value} (X : K.In s.heap) (hlim : s.heap.NoLimit) (hroom : A.depth + 1 < recursionLimit)
    (hq : ∀ h' tk e d, XMade "place" s.heap h' e C d v → R (.ok (.ret (.ref e))) { s with heap := h', toks := tk }) :
    codeAny (model prog w) A (.call (.ref C) ⟨[v], []⟩) R s := by
  obtain ⟨nm, q, N, bs, bm, sn, sub, ab, col, dd, k0, k1, k2, k3, k5, hC, hbm⟩ := T.cls
  obtain ⟨hp, g, dr, tk, os⟩ := s
  have k : ∀ b o, hp.get? b = some o → ((hp.push (kdv_tup [v])).push (excO C hp.objs.size)).get? b = some o := fun b o e => Heap.get?_push_of_some _ (Heap.get?_push_of_some _ e)
  have hget : ((hp.push (kdv_tup [v])).push (excO C hp.objs.size)).get? (hp.objs.size + 1) = some (excO C hp.objs.size) := by heap_get
  have hnx : K.lookup (hp.objs.size + 1) = none := by
    cases e : K.lookup (hp.objs.size + 1) with
    | none => rfl
    | some o =>
      have z : hp.get? (hp.objs.size + 1) = some o := X _ _ e
      exact absurd (Nat.lt_of_succ_lt (Heap.lt_size z)) (Nat.lt_irrefl _)
  refine call_own PySem.F.excBase_ValueError (fun X => refsVE_contains X bm hbm) (X _ _ hC) (looks_findIn X T.iC) (fun self => bind_fn X self T.tC) (xone_size v) ?_
  refine mi_NoBar (s := ⟨(hp.push (kdv_tup [v])).push (excO C hp.objs.size), g, dr, tk, os⟩) T noN F (X.keeps k) (hlim.keeps k) hget hnx ?_ fun h' tk' dx ⟨k', hx, dn, dne, hns⟩ => ?_
  · show A.depth + 1 < recursionLimit
    exact hroom
  · have old : ∀ b o, hp.get? b = some o → h'.get? b = some o := fun b o e => k' b o (Nat.ne_of_lt (Nat.lt_succ_of_lt (Heap.lt_size e))) (k b o e)
    have z : hp.objs.size + 1 + 1 ≤ dx := by
      first
        | (simpa only [Heap.size_push] using dn)
        | exact dn
        | (have q := dn; rw [Heap.size_push, Heap.size_push] at q; exact q)
    exact ⟨rfl, hq h' tk' (hp.objs.size + 1) dx ⟨old, Nat.le_succ _, ⟨_, _, hx, rfl, rfl, rfl, rfl⟩, Nat.le_trans (Nat.le_trans (Nat.le_succ _) (Nat.le_succ _)) z, dne, hns⟩⟩
theorem rs_NoBar (c : ClsAt K mg "NoBar" ["place"]) (T : RsAt K (He.ga K "NoBar") fI) (F : L2.FunD K "__init__" "NoBar.__init__" (xiA "place" p1 p2) (xiB "place" q1 q2 q3 q4) (xiS "place") [] [] fI fd) : RaiseIn prog w K mg "NoBar" "place" :=
  ⟨_, c.1, T.kC, c.2.1.hs, c.2.1.ty, fun X hl hr hq => mk_NoBar T (c.2.2 _ (List.mem_singleton.mpr rfl)) F X hl hr hq⟩
theorem mi_BadEdit (T : RsAt K C fI) (noN : findIn K (.ref C) "index" = some none) (F : L2.FunD K "__init__" "BadEdit.__init__" (xiA "index" p1 p2) (xiB "index" q1 q2 q3 q4) (xiS "index") [] [] fI fd) {x t0 : Addr} {v : Value}
    (X : K.In s.heap) (hlim : s.heap.NoLimit) (hx : s.heap.get? x = some (excO C t0)) (hnx : K.lookup x = none) (hroom : A.depth < recursionLimit)
    (hq : ∀ h' tk dx, XInit "index" s.heap h' x C dx t0 v → R (.ok (.ret .none)) { s with heap := h', toks := tk }) :
    codeAny (model prog w) A (.call (.ref fI) ⟨[.ref x, v], []⟩) R s := by
  have hb := F.bindsN (ps := ["self", "index"]) (fun _ _ _ _ _ _ us hl => match us, hl with | [_, _], _ => rfl) s [.ref x, v] X rfl
  obtain ⟨oc, od, dV, kV, doc, pm, an, cdv, ct, osl, rfl, ho, hcd, _, _⟩ := F.ex
  obtain ⟨nm, q, N, bs, bm, sn, sub, ab, col, dd, k0, k1, k2, k3, k5, hC, hbm⟩ := T.cls
  have hcl : clsIn K C = some { name := nm, bases := bs, mro := .ref C :: bm, ns := N, qualname := q, hasDict := true, slotNames := sn, subclasses := sub, abstract := ab, collection := col, hasDel := false } := by unfold clsIn; rw [hC] <;> rfl
  refine Att.call_fn (binds := [("self", .ref x), ("index", v)]) X hlim ho hcd hroom hb (by first | rfl | decide | with_unfolding_all rfl) (fun s₁ IC => ?_) rfl rfl rfl
  obtain ⟨h₁, tk₁, rfl⟩ := IC.toInCall.same
  have k : ∀ b o, s.heap.get? b = some o → h₁.get? b = some o := IC.toInCall.keep
  have hn := IC.toInCall.ns
  have X₁ : K.In h₁ := X.keeps k
  have hx₁ := k _ _ hx
  show wpAny _ _ (execs _ _) _ _ _
  refine wpAny_execs_cons (plainObj_wpAny_Assign_Attribute ?_)
  refine xldC (v := v) hn (by first | rfl | with_unfolding_all rfl | kernel_rfl) (xldC (v := .ref x) hn (by first | rfl | with_unfolding_all rfl | kernel_rfl) ?_)
  refine set_plain X₁ (ox := excO C t0) (od := none) ⟨hx₁, rfl, rfl, trivial⟩ T.sa ?_
  refine exc_osa X₁ hx₁ hcl (show refsVE (.ref C :: bm) = true from hbm) rfl noN (fun h₃ tk₃ dx k₃ dn dne hx₃ hn₃ => ?_)
  show wpAny _ _ (execs _ _) _ _ _
  have z : s.heap.objs.size < h₁.objs.size := hn.lt
  exact wpAny_execs_nil (hq h₃ tk₃ dx ⟨fun b o hb e => k₃ b o hb (k b o e), hx₃, Nat.le_of_lt (Nat.lt_of_lt_of_le z dn), dne, hn₃⟩)
theorem mk_BadEdit (T : RsAt K C fI) (noN : findIn K (.ref C) "index" = some none) (F : L2.FunD K "__init__" "BadEdit.__init__" (xiA "index" p1 p2) (xiB "index" q1 q2 q3 q4) (xiS "index") [] [] fI fd) {v : Value} (X : K.In s.heap) (hlim : s.heap.NoLimit) (hroom : A.depth + 1 < recursionLimit)
    (hq : ∀ h' tk e d, XMade "index" s.heap h' e C d v → R (.ok (.ret (.ref e))) { s with heap := h', toks := tk }) :
    codeAny (model prog w) A (.call (.ref C) ⟨[v], []⟩) R s := by
  obtain ⟨nm, q, N, bs, bm, sn, sub, ab, col, dd, k0, k1, k2, k3, k5, hC, hbm⟩ := T.cls
  obtain ⟨hp, g, dr, tk, os⟩ := s
  have k : ∀ b o, hp.get? b = some o → ((hp.push (kdv_tup [v])).push (excO C hp.objs.size)).get? b = some o := fun b o e => Heap.get?_push_of_some _ (Heap.get?_push_of_some _ e)
  have hget : ((hp.push (kdv_tup [v])).push (excO C hp.objs.size)).get? (hp.objs.size + 1) = some (excO C hp.objs.size) := by heap_get
  have hnx : K.lookup (hp.objs.size + 1) = none := by
    cases e : K.lookup (hp.objs.size + 1) with
    | none => rfl
    | some o =>
      have z : hp.get? (hp.objs.size + 1) = some o := X _ _ e
      exact absurd (Nat.lt_of_succ_lt (Heap.lt_size z)) (Nat.lt_irrefl _)
  refine call_own PySem.F.excBase_ValueError (fun X => refsVE_contains X bm hbm) (X _ _ hC) (looks_findIn X T.iC) (fun self => bind_fn X self T.tC) (xone_size v) ?_
  refine mi_BadEdit (s := ⟨(hp.push (kdv_tup [v])).push (excO C hp.objs.size), g, dr, tk, os⟩) T noN F (X.keeps k) (hlim.keeps k) hget hnx ?_ fun h' tk' dx ⟨k', hx, dn, dne, hns⟩ => ?_
  · show A.depth + 1 < recursionLimit
    exact hroom
  · have old : ∀ b o, hp.get? b = some o → h'.get? b = some o := fun b o e => k' b o (Nat.ne_of_lt (Nat.lt_succ_of_lt (Heap.lt_size e))) (k b o e)
    have z : hp.objs.size + 1 + 1 ≤ dx := by
      first
        | (simpa only [Heap.size_push] using dn)
        | exact dn
        | (have q := dn; rw [Heap.size_push, Heap.size_push] at q; exact q)
    exact ⟨rfl, hq h' tk' (hp.objs.size + 1) dx ⟨old, Nat.le_succ _, ⟨_, _, hx, rfl, rfl, rfl, rfl⟩, Nat.le_trans (Nat.le_trans (Nat.le_succ _) (Nat.le_succ _)) z, dne, hns⟩⟩
theorem rs_BadEdit (c : ClsAt K mg "BadEdit" ["index"]) (T : RsAt K (He.ga K "BadEdit") fI) (F : L2.FunD K "__init__" "BadEdit.__init__" (xiA "index" p1 p2) (xiB "index" q1 q2 q3 q4) (xiS "index") [] [] fI fd) : RaiseIn prog w K mg "BadEdit" "index" :=
  ⟨_, c.1, T.kC, c.2.1.hs, c.2.1.ty, fun X hl hr hq => mk_BadEdit T (c.2.2 _ (List.mem_singleton.mpr rfl)) F X hl hr hq⟩
theorem mi_Rejected (T : RsAt K C fI) (noN : findIn K (.ref C) "index" = some none) (F : L2.FunD K "__init__" "Rejected.__init__" (xiA "index" p1 p2) (xiB "index" q1 q2 q3 q4) (xiS "index") [] [] fI fd) {x t0 : Addr} {v : Value}
    (X : K.In s.heap) (hlim : s.heap.NoLimit) (hx : s.heap.get? x = some (excO C t0)) (hnx : K.lookup x = none) (hroom : A.depth < recursionLimit)
    (hq : ∀ h' tk dx, XInit "index" s.heap h' x C dx t0 v → R (.ok (.ret .none)) { s with heap := h', toks := tk }) :
    codeAny (model prog w) A (.call (.ref fI) ⟨[.ref x, v], []⟩) R s := by
  have hb := F.bindsN (ps := ["self", "index"]) (fun _ _ _ _ _ _ us hl => match us, hl with | [_, _], _ => rfl) s [.ref x, v] X rfl
  obtain ⟨oc, od, dV, kV, doc, pm, an, cdv, ct, osl, rfl, ho, hcd, _, _⟩ := F.ex
  obtain ⟨nm, q, N, bs, bm, sn, sub, ab, col, dd, k0, k1, k2, k3, k5, hC, hbm⟩ := T.cls
  have hcl : clsIn K C = some { name := nm, bases := bs, mro := .ref C :: bm, ns := N, qualname := q, hasDict := true, slotNames := sn, subclasses := sub, abstract := ab, collection := col, hasDel := false } := by unfold clsIn; rw [hC] <;> rfl
  refine Att.call_fn (binds := [("self", .ref x), ("index", v)]) X hlim ho hcd hroom hb (by first | rfl | decide | with_unfolding_all rfl) (fun s₁ IC => ?_) rfl rfl rfl
  obtain ⟨h₁, tk₁, rfl⟩ := IC.toInCall.same
  have k : ∀ b o, s.heap.get? b = some o → h₁.get? b = some o := IC.toInCall.keep
  have hn := IC.toInCall.ns
  have X₁ : K.In h₁ := X.keeps k
  have hx₁ := k _ _ hx
  show wpAny _ _ (execs _ _) _ _ _
  refine wpAny_execs_cons (plainObj_wpAny_Assign_Attribute ?_)
  refine xldC (v := v) hn (by first | rfl | with_unfolding_all rfl | kernel_rfl) (xldC (v := .ref x) hn (by first | rfl | with_unfolding_all rfl | kernel_rfl) ?_)
  refine set_plain X₁ (ox := excO C t0) (od := none) ⟨hx₁, rfl, rfl, trivial⟩ T.sa ?_
  refine exc_osa X₁ hx₁ hcl (show refsVE (.ref C :: bm) = true from hbm) rfl noN (fun h₃ tk₃ dx k₃ dn dne hx₃ hn₃ => ?_)
  show wpAny _ _ (execs _ _) _ _ _
  have z : s.heap.objs.size < h₁.objs.size := hn.lt
  exact wpAny_execs_nil (hq h₃ tk₃ dx ⟨fun b o hb e => k₃ b o hb (k b o e), hx₃, Nat.le_of_lt (Nat.lt_of_lt_of_le z dn), dne, hn₃⟩)
theorem mk_Rejected (T : RsAt K C fI) (noN : findIn K (.ref C) "index" = some none) (F : L2.FunD K "__init__" "Rejected.__init__" (xiA "index" p1 p2) (xiB "index" q1 q2 q3 q4) (xiS "index") [] [] fI fd) {v : Value} (X : K.In s.heap) (hlim : s.heap.NoLimit) (hroom : A.depth + 1 < recursionLimit)
    (hq : ∀ h' tk e d, XMade "index" s.heap h' e C d v → R (.ok (.ret (.ref e))) { s with heap := h', toks := tk }) :
    codeAny (model prog w) A (.call (.ref C) ⟨[v], []⟩) R s := by
  obtain ⟨nm, q, N, bs, bm, sn, sub, ab, col, dd, k0, k1, k2, k3, k5, hC, hbm⟩ := T.cls
  obtain ⟨hp, g, dr, tk, os⟩ := s
  have k : ∀ b o, hp.get? b = some o → ((hp.push (kdv_tup [v])).push (excO C hp.objs.size)).get? b = some o := fun b o e => Heap.get?_push_of_some _ (Heap.get?_push_of_some _ e)
  have hget : ((hp.push (kdv_tup [v])).push (excO C hp.objs.size)).get? (hp.objs.size + 1) = some (excO C hp.objs.size) := by heap_get
  have hnx : K.lookup (hp.objs.size + 1) = none := by
    cases e : K.lookup (hp.objs.size + 1) with
    | none => rfl
    | some o =>
      have z : hp.get? (hp.objs.size + 1) = some o := X _ _ e
      exact absurd (Nat.lt_of_succ_lt (Heap.lt_size z)) (Nat.lt_irrefl _)
  refine call_own PySem.F.excBase_ValueError (fun X => refsVE_contains X bm hbm) (X _ _ hC) (looks_findIn X T.iC) (fun self => bind_fn X self T.tC) (xone_size v) ?_
  refine mi_Rejected (s := ⟨(hp.push (kdv_tup [v])).push (excO C hp.objs.size), g, dr, tk, os⟩) T noN F (X.keeps k) (hlim.keeps k) hget hnx ?_ fun h' tk' dx ⟨k', hx, dn, dne, hns⟩ => ?_
  · show A.depth + 1 < recursionLimit
    exact hroom
  · have old : ∀ b o, hp.get? b = some o → h'.get? b = some o := fun b o e => k' b o (Nat.ne_of_lt (Nat.lt_succ_of_lt (Heap.lt_size e))) (k b o e)
    have z : hp.objs.size + 1 + 1 ≤ dx := by
      first
        | (simpa only [Heap.size_push] using dn)
        | exact dn
        | (have q := dn; rw [Heap.size_push, Heap.size_push] at q; exact q)
    exact ⟨rfl, hq h' tk' (hp.objs.size + 1) dx ⟨old, Nat.le_succ _, ⟨_, _, hx, rfl, rfl, rfl, rfl⟩, Nat.le_trans (Nat.le_trans (Nat.le_succ _) (Nat.le_succ _)) z, dne, hns⟩⟩
theorem rs_Rejected (c : ClsAt K mg "Rejected" ["index"]) (T : RsAt K (He.ga K "Rejected") fI) (F : L2.FunD K "__init__" "Rejected.__init__" (xiA "index" p1 p2) (xiB "index" q1 q2 q3 q4) (xiS "index") [] [] fI fd) : RaiseIn prog w K mg "Rejected" "index" :=
  ⟨_, c.1, T.kC, c.2.1.hs, c.2.1.ty, fun X hl hr hq => mk_Rejected T (c.2.2 _ (List.mem_singleton.mpr rfl)) F X hl hr hq⟩
end
end Rf
set_option Elab.async false
set_option linter.all false
set_option maxRecDepth 100000
set_option maxHeartbeats 4000000
namespace PySem.W
open PySem PySem.Spec PySem.Calls PyProof.Rows
section
variable {prog : Program} {w : World} {A : Around} {E : Value → Shared → Prop} {s : Shared} {K : Frag} {x D : Addr} {ox : Obj} {od : Option Obj}
theorem xfind {C : Addr} {name : Str} {a g : Value} (hc : hasDictIn K C = true) (ha : findIn K (.ref C) name = some (some a)) (hg : specialIn K a "__get__" = some (some g)) (ht : takesIn K a = some true) : findObj K C od name = some (.bind g a) := by
  obtain ⟨cd, hcd, _⟩ := any_some hc
  unfold findObj
  rw [hcd, Option.bind_some, ha, Option.bind_some]; simp [hg, ht]
theorem xclass {Q : Option Value → Shared → Prop} (C : L2.ExcC K D) (X : K.In s.heap) (I : InstAt s.heap x ox D od) (h : Q (some (.ref D)) { s with toks := s.toks + 1 }) : wpAny (model prog w) A (getAttr? (.ref x) "__class__") Q E s := by
  have fo : findObj K D od "__class__" = some (.bind (.builtin "getset_descriptor.__get__") (.builtin "object.__class__")) := xfind C.hd C.ha C.hn C.ht
  obtain ⟨hp, gn, dr, tk, os⟩ := s
  have l0 := I.type (M := model prog w)
  have l1 := looks_findIn (M := model prog w) X C.hg
  have l2 := looks_findIn (M := model prog w) X C.hk
  have l3 := looks_find (M := model prog w) X I fo
  have sb : Looks (model prog w) hp (isInstance (.ref x) (.type "BaseException")) true := l0.andThen (looks_subIn X C.hs)
  have n0 : (false && onTheHeap (Value.builtin "BaseException.__getattribute__")) = false := rfl
  have n1 : (onTheHeap (Value.ref D) && Value.builtin "BaseException.__getattribute__" == Value.builtin "object.__getattribute__") = false := by
    rw [show (Value.builtin "BaseException.__getattribute__" == Value.builtin "object.__getattribute__") = false by decide +kernel]; rfl
  unfold getAttr? getAttrBy? getAttrBy; refine wpAny_bind (wpAny_mkText (wpAny_bind (wpAny_attempt (wpAny_holding (wpAny_bind (l0.at (wpAny_bind (l1.at ?_))))))))
  show wpAny _ _ (if (onTheHeap (Value.ref D) && Value.builtin "BaseException.__getattribute__" == Value.builtin "object.__getattribute__") = true then _ else _) _ _ _
  rw [n1, if_neg Bool.false_ne_true]; unfold getAttrByItsOwn hookBefore
  refine wpAny_bind ?_; rw [if_pos (show onTheHeap (Value.ref D) = true from rfl)]
  refine l2.at ?_; refine wpAny_bind (wpAny_attempt (wpAny_holding ?_)); unfold callGetattribute
  rw [n0, if_neg Bool.false_ne_true]; unfold boundAndCalled; rw [PySem.F.excAttr_ValueError.ga.bind (.ref x)]
  refine wpAny_bind (wpAny_pure ?_); show wpAny _ _ (call (.builtin "BaseException.__getattribute__") [.ref x, .str "__class__" tk]) _ _ _
  refine wpAny_call (codeAny_call_builtin PySem.F.excAttr_ValueError.ga.plain PySem.F.entry_bexc_ga ?_)
  refine @check_slot (model prog w) _ _ ⟨hp, gn, dr, tk + 1, os⟩ "BaseException.__getattribute__" "BaseException" "__getattribute__" (.ref x) [.str "__class__" tk] [] _ (by decide +kernel) (by decide +kernel) sb (PySem.F.args_bexc_ga (.ref x) (.str "__class__" tk)) ?_
  unfold Builtin.«object.__getattribute__»; refine wpAny_bind (wpAny_of_eq (a := ((Value.ref x : Value), [Value.str "__class__" tk])) (by first | rfl | (simp only [slotArgs]; rfl)) ?_)
  refine wpAny_bind (wpAny_pure (wpAny_bind (l0.at (wpAny_bind (l3.at ?_)))))
  show wpAny _ _ (holding [Value.builtin "object.__class__"] (call (.builtin "getset_descriptor.__get__") [.builtin "object.__class__", .ref x, .ref D]) >>= ret) _ _ _
  refine wpAny_bind (wpAny_holding (wpAny_call (class_get (s := ⟨hp, gn, dr, tk + 1, os⟩) (ox := ox) (od := od) X I C.hm ?_)))
  refine wpAny_pure ?_; show wpAny _ _ (handedOut (.ref D)) _ _ _; rw [handedOut_of (v := .ref D) rfl]
  first
    | exact wpAny_pure (wpAny_pure h)
    | exact wpAny_pure h
    | exact wpAny_pure (wpAny_bind (wpAny_pure (wpAny_pure h)))
theorem xkit (C : L2.ExcC K D) : KitX K (.ref x) (.ref D) (fun h => InstAt h x ox D od) where
  ty := fun _ _ _ I => I.type
  it := fun _ _ X _ => by
    obtain ⟨cd, hcd, _⟩ := any_some C.hd
    unfold clsIn at hcd
    split at hcd
    · rename_i ho
      intro A' Q' E' s' k q
      unfold isType loadHead
      exact wpAny_bind (wpAny_loadPart (k _ _ (X _ _ ho)) (wpAny_pure q))
    · cases hcd
  ne := fun h tp dd its n sl X htp => by
    obtain ⟨cd, hcd, _⟩ := any_some C.hd
    refine Bool.eq_false_iff.mpr fun q => ?_
    have e : D = tp := Value.ref.inj (beq_iff_eq.mp q)
    subst e
    unfold clsIn at hcd
    split at hcd
    · rename_i ho
      cases (X _ _ ho).symm.trans htp
    · cases hcd
  ca := fun X I k => xclass C X I k
end
end PySem.W
namespace Rf
open PySem L2 TL
/-- the error's field f; cs: the classes that are known -/
def eXf (cs : Str → Bool) (i : Nat) (f : Str) : EM := fun L S => match L[i]? with
  | some (.exc x) => if cs x.cls = true then lift (x.fs.lookup f) S else .no
  | _ => .no
def XfK (K : PySem.W.Frag) (mg : Str → Option Value) (cs : Str → Bool) (f : Str) : Prop := ∀ c, cs c = true → ∃ C, mg c = some (.ref C) ∧ ExcAt K C ∧ PySem.W.findIn K (.ref C) f = some none
/-- isinstance(the error, C) -/
def eIs (t : IsT) (i : Nat) : EM := fun L S => match L[i]? with
  | some (.exc x) => if x.fs.isEmpty = true then .no else match t x.cls with
    | some b => .ok (.bl b) S
    | none => .no
  | _ => .no
def IsI (K : PySem.W.Frag) (mg : Str → Option Value) (cv : Value) (t : IsT) : Prop := ∀ c b, t c = some b → ∃ C, mg c = some (.ref C) ∧ ExcAt K C ∧ PySem.W.kitOne K (.ref C) cv = some b
end Rf
set_option Elab.async false
set_option linter.all false
set_option maxRecDepth 100000
set_option maxHeartbeats 0
namespace Rf
open PySem L2 TL
variable {xp : ExP}
section
variable {P : D → Sto → Prop} {PS : Fl → Ls → Sto → Prop} {L : Ls} {S : Sto} {i j : Nat} {m : EM} {c f : Str} {is t : IsT} {b su : SM} {cs : Str → Bool}
instance : Ws (sRaise c f m L S) PS (wp (m L S) fun d S1 => xp.E ⟨c, [(f, d)]⟩ S1) := ⟨fun h => by
  unfold sRaise
  rw [wps_st]
  exact h.mono fun d S1 h => ⟨h⟩⟩
theorem q_suR {r : RS} (h : @wps noXP r fun fl L2 S2 => noX (L2.set i .un) = true ∧ PS fl (L2.set i .un) S2) : wps (suR i r) PS := by
  cases r with
  | no => exact h.out.elim
  | ex x L S => exact h.out.elim
  | ok fl L2 S2 =>
    obtain ⟨h1, h2⟩ := h.out
    show wps (if noX (L2.set i .un) = true then RS.ok fl (L2.set i .un) S2 else .no) PS
    rw [if_pos h1]
    exact ⟨h2⟩
/-- what is wanted of an exception of a try's body, where the locals are L -/
@[reducible] def tryX (xp : ExP) (is : IsT) (i : Nat) (su : SM) (L : Ls) (PS : Fl → Ls → Sto → Prop) : ExP := ⟨fun x S1 => ∃ b, is x.cls = some b ∧ (b = true → @wps noXP (su (L.set i (.exc x)) S1) fun fl L2 S2 => noX (L2.set i .un) = true ∧ PS fl (L2.set i .un) S2) ∧ (b = false → xp.E x S1)⟩
theorem try_ex {x : Exn} {S1 : Sto} (h : (tryX xp is i su L PS).E x S1) (e : b L S = .ex x L S1) : wps (sTry is i b su L S) PS := by
  obtain ⟨bb, e1, h1, h2⟩ := h
  unfold sTry
  rw [e]
  simp only [e1]
  cases bb with
  | true => exact q_suR (h1 rfl)
  | false => exact ⟨h2 rfl⟩
/-- the body is one statement that sets a name -/
theorem q_try_set (h : @wp (tryX xp is i su L PS) _ (m L S) fun d S1 => PS .nx (L.set j (.v d)) S1) : wps (sTry is i (sSeq (sSet j m) sNil) su L S) PS := by
  cases q : m L S with
  | no => rw [q] at h; exact h.out.elim
  | ex x S1 =>
    rw [q] at h
    refine try_ex h.out ?_
    unfold sSeq sSet
    rw [q]
  | ok d S1 =>
    rw [q] at h
    have e : sSeq (sSet j m) sNil L S = .ok .nx (L.set j (.v d)) S1 := by
      unfold sSeq sSet
      rw [q] <;> rfl
    unfold sTry
    rw [e]
    exact ⟨h.out⟩
theorem q_try_drop (h : @wp (tryX xp is i su L PS) _ (m L S) fun d S1 => PS .nx L S1) : wps (sTry is i (sSeq (sDrop m) sNil) su L S) PS := by
  cases q : m L S with
  | no => rw [q] at h; exact h.out.elim
  | ex x S1 =>
    rw [q] at h
    refine try_ex h.out ?_
    unfold sSeq sDrop
    rw [q]
  | ok d S1 =>
    rw [q] at h
    have e : sSeq (sDrop m) sNil L S = .ok .nx L S1 := by
      unfold sSeq sDrop
      rw [q] <;> rfl
    unfold sTry
    rw [e]
    exact ⟨h.out⟩
theorem q_try_ret (h : @wp (tryX xp is i su L PS) _ (m L S) fun d S1 => PS (.rt d) L S1) : wps (sTry is i (sSeq (sRet m) sNil) su L S) PS := by
  cases q : m L S with
  | no => rw [q] at h; exact h.out.elim
  | ex x S1 =>
    rw [q] at h
    refine try_ex h.out ?_
    unfold sSeq sRet
    rw [q]
  | ok d S1 =>
    rw [q] at h
    have e : sSeq (sRet m) sNil L S = .ok (.rt d) L S1 := by
      unfold sSeq sRet
      rw [q]
    unfold sTry
    rw [e]
    exact ⟨h.out⟩
instance : Ws (sTry is i (sSeq (sSet j m) sNil) su L S) PS (@wp (tryX xp is i su L PS) _ (m L S) fun d S1 => PS .nx (L.set j (.v d)) S1) := ⟨q_try_set⟩
instance : Ws (sTry is i (sSeq (sDrop m) sNil) su L S) PS (@wp (tryX xp is i su L PS) _ (m L S) fun d S1 => PS .nx L S1) := ⟨q_try_drop⟩
instance : Ws (sTry is i (sSeq (sRet m) sNil) su L S) PS (@wp (tryX xp is i su L PS) _ (m L S) fun d S1 => PS (.rt d) L S1) := ⟨q_try_ret⟩
instance : Wp (eXf cs i f L S) P (∃ x, L[i]? = some (.exc x) ∧ cs x.cls = true ∧ ∃ d, x.fs.lookup f = some d ∧ P d S) := ⟨fun ⟨x, e1, e2, d, e3, h⟩ => by
  unfold eXf
  rw [e1]
  dsimp only
  rw [if_pos e2, e3]
  exact ⟨h⟩⟩
instance : Wp (eIs t i L S) P (∃ x, L[i]? = some (.exc x) ∧ x.fs.isEmpty = false ∧ ∃ b, t x.cls = some b ∧ P (.bl b) S) := ⟨fun ⟨x, e1, e2, d, e3, h⟩ => by
  unfold eIs
  rw [e1]
  dsimp only
  rw [e2, e3]
  exact ⟨h⟩⟩
/-- what a run comes to, with its exceptions -/
theorem wp.cases {α : Type} {r : R α} {P : α → Sto → Prop} {Ex : Exn → Sto → Prop} (h : @wp ⟨Ex⟩ _ r P) {Q : α → Sto → Prop} (h1 : ∀ a S, P a S → Q a S) (h2 : ∀ x S, Ex x S → xp.E x S) : wp r Q := by
  cases r with
  | ok a S => exact ⟨h1 _ _ h.out⟩
  | ex x S => exact ⟨h2 _ _ h.out⟩
  | no => exact h.out.elim
end
end Rf
set_option Elab.async false
set_option linter.all false
set_option maxRecDepth 100000
set_option maxHeartbeats 0
namespace Rf
open PySem L2 TL
def isT (l : List (Str × Bool)) : IsT := fun c => l.lookup c
theorem lookup_mem {c : Str} {b : Bool} : ∀ {l : List (Str × Bool)}, l.lookup c = some b → (c, b) ∈ l
  | [], h => by cases h
  | (d, e) :: l, h => by
    rw [List.lookup_cons] at h
    cases z : (c == d) with
    | true =>
      rw [z] at h
      have e1 : c = d := by simpa using z
      have e2 : e = b := by simpa using h
      rw [e1, e2]
      exact List.mem_cons_self
    | false =>
      rw [z] at h
      exact List.mem_cons_of_mem _ (lookup_mem h)
def xsB (K : PySem.W.Frag) (c : Str) : Bool := okO (PySem.W.nsIn K mainGlobals c) (some (some (.ref (He.ga K c))))
def kiB (K : PySem.W.Frag) (cv : Value) (l : List (Str × Bool)) : Bool := l.all fun q => xsB K q.1 && (excB K (He.ga K q.1) && decide (PySem.W.kitOne K (.ref (He.ga K q.1)) cv = some q.2))
def xfsB (K : PySem.W.Frag) (f : Str) (l : List Str) : Bool := l.all fun c => xsB K c && (excB K (He.ga K c) && okO (PySem.W.findIn K (.ref (He.ga K c)) f) (some none))
section
variable {K : PySem.W.Frag} {h : Heap} {mg : Str → Option Value} {cv : Value} {l : List (Str × Bool)} {f : Str} {cl : List Str}
theorem kiB_ok (X : K.In h) (G : h.Ns mainGlobals mg) (q : kiB K cv l = true) : IsI K mg cv (isT l) := fun c b e => by
  obtain ⟨h1, h2⟩ := b2 (List.all_eq_true.mp q _ (lookup_mem e))
  obtain ⟨h2, h3⟩ := b2 h2
  exact ⟨_, PySem.W.mg_of X G (okO_ok h1), excB_ok h2, of_decide_eq_true h3⟩
theorem xfsB_ok (X : K.In h) (G : h.Ns mainGlobals mg) (q : xfsB K f cl = true) : XfK K mg (fun c => cl.contains c) f := fun c e => by
  obtain ⟨h1, h2⟩ := b2 (List.all_eq_true.mp q c (by simpa using e))
  obtain ⟨h2, h3⟩ := b2 h2
  exact ⟨_, PySem.W.mg_of X G (okO_ok h1), excB_ok h2, okO_ok h3⟩
end
/-- the first def of a class's body -/
def iniOf : Stmt → Stmt
  | .ClassDef _ _ _ body _ _ _ _ _ _ _ => (body.find? fun s => match s with
    | .FunctionDef .. => true
    | _ => false).getD (.Pass ⟨0, 0, 0, 0⟩)
  | s => s
end Rf
set_option Elab.async false
set_option linter.all false
set_option maxRecDepth 100000
set_option maxHeartbeats 0
namespace Rf
open PySem PySem.Spec PyProof.Rows L2 TL
section
variable {X : Cx}
/-- text * int, else as oMul -/
def oMulT : D → D → Option D
  | .str a, .int b => if a.length ≤ 16 ∧ -(2 ^ 63) ≤ b ∧ b ≤ 1048576 then some (.str (List.replicate b.toNat a).flatten) else none
  | d, e => oMul d e
end
theorem x_muls {a : List Nat} {b : Int} (h : a.length ≤ 16 ∧ -(2 ^ 63) ≤ b ∧ b ≤ 1048576) : oMulT (.str a) (.int b) = some (.str (List.replicate b.toNat a).flatten) := if_pos h
theorem x_mulTi {a b : Int} (h : a.natAbs.log2 + b.natAbs.log2 < 1000000) : oMulT (.int a) (.int b) = some (.int (a * b)) := if_pos h
theorem x_mulTl {a : List D} {b : Int} (h : -(2 ^ 63) ≤ b ∧ b < 2 ^ 63 ∧ a.length * b.toNat ≤ sizeLine) : oMulT (.lst a) (.int b) = some (.lst (List.replicate b.toNat a).flatten) := if_pos h
instance {a : List Nat} {b : Int} : Og (oMulT (.str a) (.int b)) (.str (List.replicate b.toNat a).flatten) (a.length ≤ 16 ∧ -(2 ^ 63) ≤ b ∧ b ≤ 1048576) := ⟨x_muls⟩
instance {a b : Int} : Og (oMulT (.int a) (.int b)) (.int (a * b)) (a.natAbs.log2 + b.natAbs.log2 < 1000000) := ⟨x_mulTi⟩
instance {a : List D} {b : Int} : Og (oMulT (.lst a) (.int b)) (.lst (List.replicate b.toNat a).flatten) (-(2 ^ 63) ≤ b ∧ b < 2 ^ 63 ∧ a.length * b.toNat ≤ sizeLine) := ⟨x_mulTl⟩
end Rf
set_option Elab.async false
set_option linter.all false
set_option maxRecDepth 100000
set_option maxHeartbeats 0
namespace Rf
open PySem L2 TL
def ksI : List D → Option (List Key)
  | [] => some []
  | .int i :: ds => (ksI ds).map (Sum.inl i :: ·)
  | _ => none
def kTup : D → Option (List Key)
  | .tup (d :: ds) => ksI (d :: ds)
  | _ => none
def kD : Key → D
  | .inl i => .int i
  | .inr x => .str x.cps.toList
abbrev Dct := List (List Key × D)
def dGet (kvs : Dct) (q : List Key) : Option D := (kvs.find? fun kv => decide (kv.1 = q)).map (·.2)
def dPut (kvs : Dct) (q : List Key) (d : D) : Dct :=
  if (kvs.any fun kv => decide (kv.1 = q)) = true then kvs.map (fun kv => if kv.1 = q then (kv.1, d) else kv) else kvs ++ [(q, d)]
section
variable {k : Kx} {H : Hp} {g : G}
def KVR (k : Kx) (H : Hp) (g : G) : Dct → List (List Key × V) → Prop
  | [], ws => ws = []
  | p :: r, ws => ∃ v t, ws = (p.1, v) :: t ∧ Rep k H g p.2 v ∧ KVR k H g r t
theorem KVR.mono {H' : Hp} {g' : G} (e : PExt H g H' g') : ∀ {kvs : Dct} {ws : List (List Key × V)}, KVR k H g kvs ws → KVR k H' g' kvs ws
  | [], ws, h => h
  | p :: r, ws, ⟨v, t, q, h1, h2⟩ => ⟨v, t, q, h1.mono e _ _, KVR.mono e h2⟩
theorem KVR.len : ∀ {kvs : Dct} {ws : List (List Key × V)}, KVR k H g kvs ws → ws.length = kvs.length
  | [], ws, h => by rw [show ws = [] from h]; rfl
  | p :: r, ws, ⟨v, t, e, h1, h2⟩ => by rw [e, List.length_cons, List.length_cons, KVR.len h2]
theorem KVR.get {q : List Key} {d : D} : ∀ {kvs : Dct} {ws : List (List Key × V)}, KVR k H g kvs ws → dGet kvs q = some d → ∃ v, valV ws q = some v ∧ Rep k H g d v
  | [], ws, h, e => by cases e
  | p :: r, ws, ⟨v, t, e, h1, h2⟩, hg => by
    subst e
    by_cases hp : p.1 = q
    · rw [valV_pos (p := (p.1, v)) hp]
      unfold dGet at hg
      rw [List.find?_cons, decide_eq_true hp] at hg
      have : p.2 = d := by simpa using hg
      subst this
      exact ⟨v, rfl, h1⟩
    · rw [valV_neg (p := (p.1, v)) hp]
      unfold dGet at hg
      rw [List.find?_cons, decide_eq_false hp] at hg
      exact KVR.get h2 hg
theorem KVR.any {q : List Key} : ∀ {kvs : Dct} {ws : List (List Key × V)}, KVR k H g kvs ws → (ws.any fun kv => decide (kv.1 = q)) = kvs.any fun kv => decide (kv.1 = q)
  | [], ws, h => by rw [show ws = [] from h]; rfl
  | p :: r, ws, ⟨v, t, e, h1, h2⟩ => by rw [e, List.any_cons, List.any_cons, KVR.any h2]
theorem KVR.upd {q : List Key} {d : D} {v : V} (h : Rep k H g d v) : ∀ {kvs : Dct} {ws : List (List Key × V)}, KVR k H g kvs ws → KVR k H g (kvs.map fun kv => if kv.1 = q then (kv.1, d) else kv) (ws.map fun kv => if kv.1 = q then (kv.1, v) else kv)
  | [], ws, e => by rw [show ws = [] from e]; rfl
  | p :: r, ws, ⟨u, t, e, h1, h2⟩ => by
    subst e
    rw [List.map_cons, List.map_cons]
    by_cases hp : p.1 = q
    · rw [if_pos hp, if_pos (show ((p.1, u) : List Key × V).1 = q from hp)]
      exact ⟨v, _, rfl, h, KVR.upd h h2⟩
    · rw [if_neg hp, if_neg (show ¬ ((p.1, u) : List Key × V).1 = q from hp)]
      exact ⟨u, _, rfl, h1, KVR.upd h h2⟩
theorem KVR.snoc {q : List Key} {d : D} {v : V} (h : Rep k H g d v) : ∀ {kvs : Dct} {ws : List (List Key × V)}, KVR k H g kvs ws → KVR k H g (kvs ++ [(q, d)]) (ws ++ [(q, v)])
  | [], ws, e => by rw [show ws = [] from e]; exact ⟨v, [], rfl, h, rfl⟩
  | p :: r, ws, ⟨u, t, e, h1, h2⟩ => by subst e; exact ⟨u, _, rfl, h1, KVR.snoc h h2⟩
theorem KVR.put {q : List Key} {d : D} {v : V} {kvs : Dct} {ws : List (List Key × V)} (r : KVR k H g kvs ws) (h : Rep k H g d v) : KVR k H g (dPut kvs q d) (putK ws q v) := by
  unfold dPut putK
  rw [r.any]
  split
  · exact r.upd h
  · exact r.snoc h
end
def sDct (i : Nat) : SM := fun L S => .ok .nx (L.set i (.o (.dT []))) S
def sPutT (i : Nat) (mk mv : EM) : SM := fun L S => (mv L S).st L fun d S1 => match L[i]? with
  | some (.o (.dT kvs)) => (mk L S1).st L fun y S2 => match kTup y with
    | some q => if kvs.length < sizeLine then .ok .nx (L.set i (.o (.dT (dPut kvs q d)))) S2 else .no
    | none => .no
  | _ => .no
def eGetT (i : Nat) (mk : EM) : EM := fun L S => match L[i]? with
  | some (.o (.dT kvs)) => (mk L S).bind fun y S1 => match kTup y with
    | some q => lift (dGet kvs q) S1
    | none => .no
  | _ => .no
def fKeysT (i : Nat) : Ls → Sto → R (List D) := fun L S => match L[i]? with
  | some (.o (.dT kvs)) => .ok (kvs.map fun kv => .tup (kv.1.map kD)) S
  | _ => .no
end Rf
set_option Elab.async false
set_option linter.all false
set_option maxRecDepth 100000
set_option maxHeartbeats 0
namespace Rf
open PySem PySem.W PySem.Calls PySem.SeqAt PyProof.Rows L2 TS
end Rf
set_option Elab.async false
set_option linter.all false
set_option maxRecDepth 100000
set_option maxHeartbeats 0
namespace Rf
open PySem PySem.W PySem.Calls PySem.SeqAt PyProof.Rows L2 TS
end Rf
set_option Elab.async false
set_option linter.all false
set_option maxRecDepth 100000
set_option maxHeartbeats 0
namespace Rf
open PySem PySem.W PySem.Calls PySem.SeqAt PyProof.Rows L2 TS
end Rf
set_option Elab.async false
set_option linter.all false
set_option maxRecDepth 100000
set_option maxHeartbeats 0
namespace Rf
open PySem L2 TL TS PyProof.Rows
end Rf
set_option Elab.async false
set_option linter.all false
set_option maxRecDepth 100000
set_option maxHeartbeats 0
namespace Rf
open PySem L2 TL
def fRev (m : EM) : Ls → Sto → R (List D) := fun L S => (m L S).bind fun d S1 => match deref S1 d with
  | .lst ds => .ok ds.reverse S1
  | _ => .no
section
variable {xp : ExP} {P : D → Sto → Prop} {PL : List D → Sto → Prop} {PS : Fl → Ls → Sto → Prop} {L : Ls} {S : Sto} {i : Nat} {a b m : EM}
theorem r_fRev (h : wp (m L S) fun d S1 => ∃ ds, deref S1 d = .lst ds ∧ PL ds.reverse S1) : wp (fRev m L S) PL := by
  unfold fRev
  rw [wp_bind]
  refine h.mono fun d S1 ⟨ds, e, h⟩ => ?_
  rw [e]
  exact ⟨h⟩
theorem q_dct (h : PS .nx (L.set i (.o (.dT []))) S) : wps (sDct i L S) PS := ⟨h⟩
theorem q_putT (h : wp (b L S) fun d S1 => ∃ kvs, L[i]? = some (.o (.dT kvs)) ∧ wp (a L S1) fun y S2 => ∃ q, kTup y = some q ∧ kvs.length < sizeLine ∧ PS .nx (L.set i (.o (.dT (dPut kvs q d)))) S2) : wps (sPutT i a b L S) PS := by
  unfold sPutT
  rw [wps_st]
  refine h.mono fun d S1 ⟨kvs, e, h⟩ => ?_
  rw [e]
  dsimp only
  rw [wps_st]
  refine h.mono fun y S2 ⟨q, e1, e2, h⟩ => ?_
  rw [e1]
  dsimp only
  rw [if_pos e2]
  exact ⟨h⟩
theorem r_getT (h : ∃ kvs, L[i]? = some (.o (.dT kvs)) ∧ wp (a L S) fun y S1 => ∃ q, kTup y = some q ∧ ∃ d, dGet kvs q = some d ∧ P d S1) : wp (eGetT i a L S) P := by
  obtain ⟨kvs, e, h⟩ := h
  unfold eGetT
  rw [e]
  dsimp only
  rw [wp_bind]
  refine h.mono fun y S1 ⟨q, e1, d, e2, h⟩ => ?_
  rw [e1]
  dsimp only
  exact r_lift ⟨d, e2, h⟩
theorem r_keysT (h : ∃ kvs, L[i]? = some (.o (.dT kvs)) ∧ PL (kvs.map fun kv => .tup (kv.1.map kD)) S) : wp (fKeysT i L S) PL := by
  obtain ⟨kvs, e, h⟩ := h
  unfold fKeysT
  rw [e]
  exact ⟨h⟩
instance : Wp (fRev m L S) PL (wp (m L S) fun d S1 => ∃ ds, deref S1 d = .lst ds ∧ PL ds.reverse S1) := ⟨r_fRev⟩
instance : Ws (sDct i L S) PS (PS .nx (L.set i (.o (.dT []))) S) := ⟨q_dct⟩
instance : Ws (sPutT i a b L S) PS (wp (b L S) fun d S1 => ∃ kvs, L[i]? = some (.o (.dT kvs)) ∧ wp (a L S1) fun y S2 => ∃ q, kTup y = some q ∧ kvs.length < sizeLine ∧ PS .nx (L.set i (.o (.dT (dPut kvs q d)))) S2) := ⟨q_putT⟩
instance : Wp (eGetT i a L S) P (∃ kvs, L[i]? = some (.o (.dT kvs)) ∧ wp (a L S) fun y S1 => ∃ q, kTup y = some q ∧ ∃ d, dGet kvs q = some d ∧ P d S1) := ⟨r_getT⟩
instance : Wp (fKeysT i L S) PL (∃ kvs, L[i]? = some (.o (.dT kvs)) ∧ PL (kvs.map fun kv => .tup (kv.1.map kD)) S) := ⟨r_keysT⟩
end
end Rf
set_option Elab.async false
set_option linter.all false
set_option maxRecDepth 100000
set_option maxHeartbeats 0
namespace Rf
open PySem L2 TL
def kKey : D → Option Key
  | .int i => some (.inl i)
  | .str x => some (.inr ⟨x.toArray⟩)
  | _ => none
abbrev DctK := List (Key × D)
def dGetK (kvs : DctK) (q : Key) : Option D := (kvs.find? fun kv => decide (kv.1 = q)).map (·.2)
def dPutK (kvs : DctK) (q : Key) (d : D) : DctK :=
  if (kvs.any fun kv => decide (kv.1 = q)) = true then kvs.map (fun kv => if kv.1 = q then (kv.1, d) else kv) else kvs ++ [(q, d)]
section
variable {k : Kx} {H : Hp} {g : G}
def KVK (k : Kx) (H : Hp) (g : G) : DctK → List (Key × V) → Prop
  | [], ws => ws = []
  | p :: r, ws => ∃ v t, ws = (p.1, v) :: t ∧ Rep k H g p.2 v ∧ KVK k H g r t
theorem KVK.mono {H' : Hp} {g' : G} (e : PExt H g H' g') : ∀ {kvs : DctK} {ws : List (Key × V)}, KVK k H g kvs ws → KVK k H' g' kvs ws
  | [], ws, h => h
  | p :: r, ws, ⟨v, t, q, h1, h2⟩ => ⟨v, t, q, h1.mono e _ _, KVK.mono e h2⟩
theorem KVK.get {q : Key} {d : D} : ∀ {kvs : DctK} {ws : List (Key × V)}, KVK k H g kvs ws → dGetK kvs q = some d → ∃ v, valV ws q = some v ∧ Rep k H g d v
  | [], ws, h, e => by cases e
  | p :: r, ws, ⟨v, t, e, h1, h2⟩, hg => by
    subst e
    by_cases hp : p.1 = q
    · rw [valV_pos (p := (p.1, v)) hp]
      unfold dGetK at hg
      rw [List.find?_cons, decide_eq_true hp] at hg
      have : p.2 = d := by simpa using hg
      subst this
      exact ⟨v, rfl, h1⟩
    · rw [valV_neg (p := (p.1, v)) hp]
      unfold dGetK at hg
      rw [List.find?_cons, decide_eq_false hp] at hg
      exact KVK.get h2 hg
theorem KVK.any {q : Key} : ∀ {kvs : DctK} {ws : List (Key × V)}, KVK k H g kvs ws → (ws.any fun kv => decide (kv.1 = q)) = kvs.any fun kv => decide (kv.1 = q)
  | [], ws, h => by rw [show ws = [] from h]; rfl
  | p :: r, ws, ⟨v, t, e, h1, h2⟩ => by rw [e, List.any_cons, List.any_cons, KVK.any h2]
theorem KVK.upd {q : Key} {d : D} {v : V} (h : Rep k H g d v) : ∀ {kvs : DctK} {ws : List (Key × V)}, KVK k H g kvs ws → KVK k H g (kvs.map fun kv => if kv.1 = q then (kv.1, d) else kv) (ws.map fun kv => if kv.1 = q then (kv.1, v) else kv)
  | [], ws, e => by rw [show ws = [] from e]; rfl
  | p :: r, ws, ⟨u, t, e, h1, h2⟩ => by
    subst e
    rw [List.map_cons, List.map_cons]
    by_cases hp : p.1 = q
    · rw [if_pos hp, if_pos (show ((p.1, u) : Key × V).1 = q from hp)]
      exact ⟨v, _, rfl, h, KVK.upd h h2⟩
    · rw [if_neg hp, if_neg (show ¬ ((p.1, u) : Key × V).1 = q from hp)]
      exact ⟨u, _, rfl, h1, KVK.upd h h2⟩
theorem KVK.snoc {q : Key} {d : D} {v : V} (h : Rep k H g d v) : ∀ {kvs : DctK} {ws : List (Key × V)}, KVK k H g kvs ws → KVK k H g (kvs ++ [(q, d)]) (ws ++ [(q, v)])
  | [], ws, e => by rw [show ws = [] from e]; exact ⟨v, [], rfl, h, rfl⟩
  | p :: r, ws, ⟨u, t, e, h1, h2⟩ => by subst e; exact ⟨u, _, rfl, h1, KVK.snoc h h2⟩
theorem KVK.put {q : Key} {d : D} {v : V} {kvs : DctK} {ws : List (Key × V)} (r : KVK k H g kvs ws) (h : Rep k H g d v) : KVK k H g (dPutK kvs q d) (putK ws q v) := by
  unfold dPutK putK
  rw [r.any]
  split
  · exact r.upd h
  · exact r.snoc h
end
def eEdc : EM := fun _ S => .ok .edc S
def sDcK (i : Nat) : SM := fun L S => .ok .nx (L.set i (.o (.dK []))) S
def sPutK (i : Nat) (mk mv : EM) : SM := fun L S => (mv L S).st L fun d S1 => match L[i]? with
  | some (.o (.dK kvs)) => (mk L S1).st L fun y S2 => match kKey y with
    | some q => if kvs.length < sizeLine then .ok .nx (L.set i (.o (.dK (dPutK kvs q d)))) S2 else .no
    | none => .no
  | _ => .no
def eGetK (i : Nat) (mk : EM) : EM := fun L S => match L[i]? with
  | some (.o (.dK kvs)) => (mk L S).bind fun y S1 => match kKey y with
    | some q => lift (dGetK kvs q) S1
    | none => .no
  | _ => .no
def fKeysK (i : Nat) : Ls → Sto → R (List D) := fun L S => match L[i]? with
  | some (.o (.dK kvs)) => .ok (kvs.map fun kv => kD kv.1) S
  | _ => .no
section
variable {xp : ExP} {P : D → Sto → Prop} {PL : List D → Sto → Prop} {PS : Fl → Ls → Sto → Prop} {L : Ls} {S : Sto} {i : Nat} {a b m : EM}
theorem r_edc (h : P .edc S) : wp (eEdc L S) P := ⟨h⟩
theorem q_dcK (h : PS .nx (L.set i (.o (.dK []))) S) : wps (sDcK i L S) PS := ⟨h⟩
theorem q_putK (h : wp (b L S) fun d S1 => ∃ kvs, L[i]? = some (.o (.dK kvs)) ∧ wp (a L S1) fun y S2 => ∃ q, kKey y = some q ∧ kvs.length < sizeLine ∧ PS .nx (L.set i (.o (.dK (dPutK kvs q d)))) S2) : wps (sPutK i a b L S) PS := by
  unfold sPutK
  rw [wps_st]
  refine h.mono fun d S1 ⟨kvs, e, h⟩ => ?_
  rw [e]
  dsimp only
  rw [wps_st]
  refine h.mono fun y S2 ⟨q, e1, e2, h⟩ => ?_
  rw [e1]
  dsimp only
  rw [if_pos e2]
  exact ⟨h⟩
theorem r_getK (h : ∃ kvs, L[i]? = some (.o (.dK kvs)) ∧ wp (a L S) fun y S1 => ∃ q, kKey y = some q ∧ ∃ d, dGetK kvs q = some d ∧ P d S1) : wp (eGetK i a L S) P := by
  obtain ⟨kvs, e, h⟩ := h
  unfold eGetK
  rw [e]
  dsimp only
  rw [wp_bind]
  refine h.mono fun y S1 ⟨q, e1, d, e2, h⟩ => ?_
  rw [e1]
  dsimp only
  exact r_lift ⟨d, e2, h⟩
theorem r_keysK (h : ∃ kvs, L[i]? = some (.o (.dK kvs)) ∧ PL (kvs.map fun kv => kD kv.1) S) : wp (fKeysK i L S) PL := by
  obtain ⟨kvs, e, h⟩ := h
  unfold fKeysK
  rw [e]
  exact ⟨h⟩
instance : Wp (eEdc L S) P (P .edc S) := ⟨r_edc⟩
instance : Ws (sDcK i L S) PS (PS .nx (L.set i (.o (.dK []))) S) := ⟨q_dcK⟩
instance : Ws (sPutK i a b L S) PS (wp (b L S) fun d S1 => ∃ kvs, L[i]? = some (.o (.dK kvs)) ∧ wp (a L S1) fun y S2 => ∃ q, kKey y = some q ∧ kvs.length < sizeLine ∧ PS .nx (L.set i (.o (.dK (dPutK kvs q d)))) S2) := ⟨q_putK⟩
instance : Wp (eGetK i a L S) P (∃ kvs, L[i]? = some (.o (.dK kvs)) ∧ wp (a L S) fun y S1 => ∃ q, kKey y = some q ∧ ∃ d, dGetK kvs q = some d ∧ P d S1) := ⟨r_getK⟩
instance : Wp (fKeysK i L S) PL (∃ kvs, L[i]? = some (.o (.dK kvs)) ∧ PL (kvs.map fun kv => kD kv.1) S) := ⟨r_keysK⟩
end
end Rf
set_option Elab.async false
set_option linter.all false
set_option maxRecDepth 100000
set_option maxHeartbeats 1000000
namespace Rf
open PySem L2 TL
section
variable {k : Kx} {B H : Hp} {gB g : G} {S : Sto} {σ : L2.St} {L : Ls} {a : Addr} {o o' : O} {u : HO} {n : Nat}
def isM : HO → Bool
  | .lst _ => true
  | .dK _ => true
  | .dT _ => true
  | .ins _ _ _ => true
  | .ext _ => true
  | _ => false
theorem isM_of {u : HO} (h : isM u = true) : (∀ xs, u ≠ .tup xs) ∧ (∀ p q, u ≠ .frz p q) ∧ Mut (some u) := by
  cases u <;> first | exact ⟨fun _ => HO.noConfusion, fun _ _ => HO.noConfusion, True.intro⟩ | cases h
theorem ORep.isM (h : ORep k H g o a) : ∃ u, H a = some u ∧ isM u = true := by
  cases o with
  | lst ds => obtain ⟨vs, e, _⟩ := h; exact ⟨_, e, rfl⟩
  | dK kvs => obtain ⟨vs, e, _⟩ := h; exact ⟨_, e, rfl⟩
  | dT kvs => obtain ⟨vs, e, _⟩ := h; exact ⟨_, e, rfl⟩
  | ins c ns ds => obtain ⟨C, dx, vs, _, e, _⟩ := h; exact ⟨_, e, rfl⟩
  | dN kvs => obtain ⟨es, e, _⟩ := h; exact ⟨_, e, rfl⟩
theorem ORep.mut (h : ORep k H g o a) : (∀ xs, H a ≠ some (.tup xs)) ∧ (∀ p q, H a ≠ some (.frz p q)) ∧ Mut (H a) := by
  obtain ⟨u, e, m⟩ := h.isM
  obtain ⟨m1, m2, m3⟩ := isM_of m
  rw [e]
  exact ⟨fun xs z => m1 xs (Option.some.inj z), fun p q z => m2 p q (Option.some.inj z), m3⟩
theorem WF.pe (w : WF k H g S) (hn : S[n]? = some o) : PExt H g (upd H (g.ρ n) u) g := by
  have hg : n < g.n := by rw [← w.len]; exact (List.getElem?_eq_some_iff.mp hn).1
  obtain ⟨m1, m2, _⟩ := ORep.mut (w.ob n _ hn)
  refine ⟨fun _ f => f, fun b o q1 q => ?_, fun b xs q => ?_, fun b o u q => ?_, Nat.le_refl _, fun _ _ => rfl⟩
  · rw [upd_ne (fun z => w.nF n hg (by rw [← z]; exact q1))]; exact q
  · rw [upd_ne (fun z => m1 xs (by rw [← z]; exact q))]; exact q
  · rw [upd_ne (fun z => m2 o u (by rw [← z]; exact q))]; exact q
end
def fGet {α : Type} (f : Str) : List Str → List α → Option α
  | n :: ns, x :: xs => if n = f then some x else fGet f ns xs
  | _, _ => none
def fPut {α : Type} (f : Str) (v : α) : List Str → List α → List Str × List α
  | n :: ns, x :: xs => if n = f then (n :: ns, v :: xs) else ((n :: (fPut f v ns xs).1), (x :: (fPut f v ns xs).2))
  | _, _ => ([f], [v])
theorem fGet_zip (f : Str) : ∀ (ns : List Str) (vs : List V), (ns.zip vs).lookup f = fGet f ns vs
  | [], _ => rfl
  | _ :: _, [] => rfl
  | n :: ns, v :: vs => by
    rw [List.zip_cons_cons, List.lookup_cons, fGet]
    by_cases h : n = f
    · subst h; simp
    · rw [if_neg h, show (f == n) = false from beq_eq_false_iff_ne.mpr (fun e => h e.symm)]
      exact fGet_zip f ns vs
section
variable {k : Kx} {H : Hp} {g : G} {f : Str}
theorem fGet_rep {d : D} : ∀ {ns : List Str} {ds : List D} {vs : List V}, RepL k H g ds vs → fGet f ns ds = some d → ∃ v, fGet f ns vs = some v ∧ Rep k H g d v
  | [], _, _, _, h => by cases h
  | _ :: _, [], _, _, h => by cases h
  | n :: ns, x :: ds, _, ⟨v, r, e, h1, h2⟩, h => by
    subst e
    rw [fGet] at h ⊢
    by_cases q : n = f
    · rw [if_pos q] at h ⊢; cases h; exact ⟨v, rfl, h1⟩
    · rw [if_neg q] at h ⊢; exact fGet_rep h2 h
end
/-- the object, if it is an instance -/
def insOf (S : Sto) : D → Option (Str × List Str × List D)
  | .obj n => match S[n]? with
    | some (.ins c ns ds) => some (c, ns, ds)
    | _ => none
  | _ => none
def eFl (cs : List Str) (f : Str) (mo : EM) : EM := fun L S => (mo L S).bind fun d S1 => match insOf S1 d with
  | some (c, ns, ds) => if c ∈ cs then lift (fGet f ns ds) S1 else .no
  | none => .no
/-- o.f = e -/
def sFl (cs : List Str) (f : Str) (mo mv : EM) : SM := fun L S => (mv L S).st L fun d S1 => (mo L S1).st L fun o S2 => match o with
  | .obj n => match S2[n]? with
    | some (.ins c ns ds) => if c ∈ cs ∧ ns.length < 900 then .ok .nx L (S2.set n (.ins c (fPut f d ns ds).1 (fPut f d ns ds).2)) else .no
    | _ => .no
  | _ => .no
/-- o.f op= e -/
def sFlA (cs : List Str) (f : Str) (oo : D → D → Option D) (mo mv : EM) : SM := fun L S => (mo L S).st L fun o S1 => match o with
  | .obj n => match S1[n]? with
    | some (.ins c ns ds) => if c ∈ cs then match fGet f ns ds with
      | some x => (mv L S1).st L fun y S2 => match oo (deref S2 x) (deref S2 y) with
        | some z => match S2[n]? with
          | some (.ins c' ns' ds') => if c' = c ∧ ns'.length < 900 then .ok .nx L (S2.set n (.ins c' (fPut f z ns' ds').1 (fPut f z ns' ds').2)) else .no
          | _ => .no
        | none => .no
      | none => .no
      else .no
    | _ => .no
  | _ => .no
end Rf
set_option Elab.async false
set_option linter.all false
set_option maxRecDepth 100000
set_option maxHeartbeats 1000000
namespace Rf
open PySem L2 TL
/-- m is, for the class c, a def that does F -/
structure MthC (X : Cx) (m : Str) (c : Str) (F : Fn) : Prop where
  ex : ∃ (C f : Addr) (fd : FuncData) (ps : List Str) (j : Nat), X.mg c = some (.ref C) ∧ Cls X.K C ∧ Meth X.K C m f ∧ FnOkG X.prog X.w X.K X.mg X.base (L2.CX X.prog X.w) j f fd ps (spC (k0 X.K X.mg X.w) F) ∧ RoomG j X.A ∧ Binds X.K fd ps []
def eMt (m : Str) (ms : List (Str × Fn)) (mo : EM) (ma : Ls → Sto → R (List D)) : EM := fun L S => (mo L S).bind fun d S1 => match insOf S1 d with
  | some (c, ns, ds) => match ms.lookup c, fGet m ns ds with
    | some F, none => (ma L S1).bind fun as S2 => F (d :: as) S2
    | _, _ => .no
  | none => .no
section
variable {X : Cx} {W : WX} {o e : Expr} {m x : Str} {pos apos p : Pos} {es : List Expr} {ms : List (Str × Fn)} {mo : EM} {ma : Ls → Sto → R (List D)}
def mkR (n : Nat) : R D → R D
  | .ok .non S => .ok (.obj n) S
  | _ => .no
def eMk (c : Str) (F : Fn) (ma : Ls → Sto → R (List D)) : EM := fun L S => (ma L S).bind fun ds S1 => mkR S1.length (F (.obj S1.length :: ds) (S1 ++ [.ins c [] []]))
def eFnD (c : Fn) (dds : List D) (ma : Ls → Sto → R (List D)) : EM := fun L S => (ma L S).bind fun ds S1 => c (ds ++ dds) S1
def eFnK (c : Fn) (n m : Nat) (ma mk : Ls → Sto → R (List D)) : EM := fun L S => (ma L S).bind fun ds S1 => (mk L S1).bind fun zs S2 => if ds.length = n ∧ zs.length = m then match c (ds ++ zs) S2 with
  | .ok d S3 => .ok d S3
  | _ => .no
  else .no
def eCaL (i : Nat) (fs : List (Str × Fn)) (ma : Ls → Sto → R (List D)) : EM := fun L S => match L[i]? with
  | some (.v (.gl x)) => match fs.lookup x with
    | some F => (ma L S).bind F
    | none => .no
  | _ => .no
end
end Rf
set_option Elab.async false
set_option linter.all false
set_option maxRecDepth 100000
set_option maxHeartbeats 1000000
namespace Rf
open PySem L2 TL
/-- what is looked up: none where nothing is known -/
def dLook (S : Sto) (o y : D) : Option (Option D) := match o with
  | .obj n => match S[n]? with
    | some (.dK kvs) => (kKey y).map (dGetK kvs)
    | _ => none
  | _ => none
/-- {}: a new one -/
def eNwK : EM := fun _ S => .ok (.obj S.length) (S ++ [.dK []])
def eGetO (mo mk : EM) : EM := fun L S => (mo L S).bind fun o S1 => (mk L S1).bind fun y S2 => match dLook S2 o y with
  | some (some d) => .ok d S2
  | _ => .no
def eInO (neg : Bool) (mk mo : EM) : EM := fun L S => (mk L S).bind fun y S1 => (mo L S1).bind fun o S2 => match dLook S2 o y with
  | some r => .ok (.bl (neg != r.isSome)) S2
  | none => .no
/-- d.get(k, x) -/
def eGet2 (mo mk md : EM) : EM := fun L S => (mo L S).bind fun o S1 => match dLook S1 o (.int 0) with
  | some _ => (mk L S1).bind fun y S2 => (md L S2).bind fun z S3 => match dLook S3 o y with
    | some r => .ok (r.getD z) S3
    | none => .no
  | none => .no
/-- d[k] = v -/
def sPutD (mo mk mv : EM) : SM := fun L S => (mv L S).st L fun d S1 => (mo L S1).st L fun o S2 => (mk L S2).st L fun y S3 => match o, kKey y with
  | .obj n, some q => match S3[n]? with
    | some (.dK kvs) => if kvs.length < sizeLine then .ok .nx L (S3.set n (.dK (dPutK kvs q d))) else .no
    | _ => .no
  | _, _ => .no
/-- d.setdefault(k, v) -/
def eSetK (mo mk md : EM) : EM := fun L S => (mo L S).bind fun o S1 => match dLook S1 o (.int 0) with
  | some _ => (mk L S1).bind fun y S2 => (md L S2).bind fun z S3 => match o, kKey y with
    | .obj n, some q => match S3[n]? with
      | some (.dK kvs) => if kvs.length < sizeLine then match dGetK kvs q with
        | some d => .ok d S3
        | none => .ok z (S3.set n (.dK (dPutK kvs q z)))
        else .no
      | _ => .no
    | _, _ => .no
  | none => .no
end Rf
set_option Elab.async false
set_option linter.all false
set_option maxRecDepth 100000
set_option maxHeartbeats 1000000
namespace Rf
open PySem L2 TL
mutual
def kN : D → Option NestedKey
  | .non => some .none
  | .int i => some (.num i)
  | .str x => some (.text ⟨x.toArray⟩)
  | .tup ds => (kNs ds).map .tup
  | _ => none
def kNs : List D → Option (List NestedKey)
  | [] => some []
  | d :: ds => match kN d, kNs ds with
    | some k, some ks => some (k :: ks)
    | _, _ => none
end
/-- a key of such a dict: a tuple, not too deep -/
def kNk : D → Option NestedKey
  | .tup ds => (kN (.tup ds)).bind fun q => if q.depth ≤ 8 then some q else none
  | _ => none
abbrev DctN := List (NestedKey × D)
def nGet (kvs : DctN) (q : NestedKey) : Option D := (kvs.find? fun kv => decide (kv.1 = q)).map (·.2)
def eNwN : EM := fun _ S => .ok (.obj S.length) (S ++ [.dN []])
def isDN (S : Sto) : D → Bool
  | .obj n => match S[n]? with
    | some (.dN _) => true
    | _ => false
  | _ => false
def eSetN (mo mk md : EM) : EM := fun L S => (mo L S).bind fun o S1 => if isDN S1 o = true then (mk L S1).bind fun y S2 => (md L S2).bind fun z S3 => match o, kNk y with
    | .obj n, some q => match S3[n]? with
      | some (.dN kvs) => if kvs.length < sizeLine then match nGet kvs q with
        | some d => .ok d S3
        | none => .ok z (S3.set n (.dN (kvs ++ [(q, z)])))
        else .no
      | _ => .no
    | _, _ => .no
  else .no
end Rf
set_option Elab.async false
set_option linter.all false
set_option maxRecDepth 100000
set_option maxHeartbeats 1000000
namespace Rf
open PySem L2 TL
structure PSa (X : Cx) (c : Code) (st : List Stmt) (t : TS) : Prop where
  run : ∀ (pins : List (Addr × Obj)) (s : Shared) (σ : L2.St) (H : Hp) (D : Ends), Inv X pins σ H s → t D σ H → PySem.wpAt (model X.prog X.w) X.A c (execs st X.env) (L2.SP X pins D) X.xe s
theorem PSa.imp {X : Cx} {c : Code} {st : List Stmt} {t t' : TS} (h : PSa X c st t) (i : ∀ D σ H, t' D σ H → t D σ H) : PSa X c st t' := ⟨fun pins s σ H D I q => h.run pins s σ H D I (i D σ H q)⟩
def eSup (cs : List Str) (F : Fn) (ma : Ls → Sto → R (List D)) : EM := fun L S => match L[(0 : Nat)]? with
  | some (.v d) => match insOf S d with
    | some (c, _, _) => if c ∈ cs then (ma L S).bind fun as S1 => F (d :: as) S1 else .no
    | none => .no
  | _ => .no
end Rf
set_option Elab.async false
set_option linter.all false
set_option maxRecDepth 100000
set_option maxHeartbeats 1000000
namespace Rf
open PySem L2 TL
variable {xp : ExP}
section
variable {P : D → Sto → Prop} {PL : List D → Sto → Prop} {PS : Fl → Ls → Sto → Prop} {L : Ls} {S : Sto} {i n nn : Nat} {a b c m : EM} {ma mk : Ls → Sto → R (List D)} {cs : List Str} {f x : Str} {ms fs : List (Str × Fn)} {F : Fn} {dds : List D} {oo : D → D → Option D} {ng : Bool}
theorem r_fl (h : wp (a L S) fun d S1 => ∃ c ns ds, insOf S1 d = some (c, ns, ds) ∧ c ∈ cs ∧ ∃ z, fGet f ns ds = some z ∧ P z S1) : wp (eFl cs f a L S) P := by
  unfold eFl
  rw [wp_bind]
  refine h.mono fun d S1 ⟨c, ns, ds, e, hc, z, e2, h⟩ => ?_
  rw [e]
  dsimp only
  rw [if_pos hc]
  exact r_lift ⟨z, e2, h⟩
theorem q_fl (h : wp (b L S) fun d S1 => wp (a L S1) fun o S2 => ∃ n c ns ds, o = .obj n ∧ S2[n]? = some (.ins c ns ds) ∧ c ∈ cs ∧ ns.length < 900 ∧ PS .nx L (S2.set n (.ins c (fPut f d ns ds).1 (fPut f d ns ds).2))) : wps (sFl cs f a b L S) PS := by
  unfold sFl
  rw [wps_st]
  refine h.mono fun d S1 h => ?_
  rw [wps_st]
  refine h.mono fun o S2 ⟨n, c, ns, ds, e, e1, hc, hl, h⟩ => ?_
  subst e
  simp only [e1]
  rw [if_pos ⟨hc, hl⟩]
  exact ⟨h⟩
theorem q_flA (h : wp (a L S) fun o S1 => ∃ n c ns ds x, o = .obj n ∧ S1[n]? = some (.ins c ns ds) ∧ c ∈ cs ∧ fGet f ns ds = some x ∧ wp (b L S1) fun y S2 => ∃ z, oo (deref S2 x) (deref S2 y) = some z ∧
    ∃ ns' ds', S2[n]? = some (.ins c ns' ds') ∧ ns'.length < 900 ∧ PS .nx L (S2.set n (.ins c (fPut f z ns' ds').1 (fPut f z ns' ds').2))) : wps (sFlA cs f oo a b L S) PS := by
  unfold sFlA
  rw [wps_st]
  refine h.mono fun o S1 ⟨n, c, ns, ds, x, e, e1, hc, e2, h⟩ => ?_
  subst e
  simp only [e1]
  rw [if_pos hc, e2]
  dsimp only
  rw [wps_st]
  refine h.mono fun y S2 ⟨z, e3, ns', ds', e4, hl, h⟩ => ?_
  rw [e3]
  simp only [e4]
  rw [if_pos ⟨trivial, hl⟩]
  exact ⟨h⟩
theorem r_mt (h : wp (a L S) fun d S1 => ∃ c ns ds, insOf S1 d = some (c, ns, ds) ∧ ∃ F, ms.lookup c = some F ∧ fGet x ns ds = none ∧ wp (ma L S1) fun as S2 => wp (F (d :: as) S2) P) : wp (eMt x ms a ma L S) P := by
  unfold eMt
  rw [wp_bind]
  refine h.mono fun d S1 ⟨c, ns, ds, e, F, e1, e2, h⟩ => ?_
  rw [e]
  simp only [e1, e2]
  rw [wp_bind]
  exact h
theorem r_mk (h : wp (ma L S) fun ds S1 => @wp noXP _ (F (.obj S1.length :: ds) (S1 ++ [.ins x [] []])) fun d S2 => d = .non ∧ P (.obj S1.length) S2) : wp (eMk x F ma L S) P := by
  unfold eMk
  rw [wp_bind]
  refine h.mono fun ds S1 h => ?_
  obtain ⟨d, S2, e, rfl, h⟩ := h.ex
  rw [e]
  exact ⟨h⟩
theorem r_fnD (h : wp (ma L S) fun ds S1 => wp (F (ds ++ dds) S1) P) : wp (eFnD F dds ma L S) P := by
  unfold eFnD
  rw [wp_bind]
  exact h
theorem r_fnK (h : wp (ma L S) fun ds S1 => wp (mk L S1) fun zs S2 => ds.length = n ∧ zs.length = nn ∧ @wp noXP _ (F (ds ++ zs) S2) P) : wp (eFnK F n nn ma mk L S) P := by
  unfold eFnK
  rw [wp_bind]
  refine h.mono fun ds S1 h => ?_
  rw [wp_bind]
  refine h.mono fun zs S2 ⟨h1, h2, h⟩ => ?_
  rw [if_pos ⟨h1, h2⟩]
  obtain ⟨d, S3, e, h⟩ := h.ex
  rw [e]
  exact ⟨h⟩
theorem r_caL (h : ∃ x, L[i]? = some (.v (.gl x)) ∧ ∃ F, fs.lookup x = some F ∧ wp (ma L S) fun ds S1 => wp (F ds S1) P) : wp (eCaL i fs ma L S) P := by
  obtain ⟨x, e, F, e1, h⟩ := h
  unfold eCaL
  rw [e]
  simp only [e1]
  rw [wp_bind]
  exact h
theorem r_nwK (h : P (.obj S.length) (S ++ [.dK []])) : wp (eNwK L S) P := ⟨h⟩
theorem r_nwN (h : P (.obj S.length) (S ++ [.dN []])) : wp (eNwN L S) P := ⟨h⟩
theorem r_getO (h : wp (a L S) fun o S1 => wp (b L S1) fun y S2 => ∃ d, dLook S2 o y = some (some d) ∧ P d S2) : wp (eGetO a b L S) P := by
  unfold eGetO
  rw [wp_bind]
  refine h.mono fun o S1 h => ?_
  rw [wp_bind]
  refine h.mono fun y S2 ⟨d, e, h⟩ => ?_
  rw [e]
  exact ⟨h⟩
theorem r_inO (h : wp (a L S) fun y S1 => wp (b L S1) fun o S2 => ∃ r, dLook S2 o y = some r ∧ P (.bl (ng != r.isSome)) S2) : wp (eInO ng a b L S) P := by
  unfold eInO
  rw [wp_bind]
  refine h.mono fun o S1 h => ?_
  rw [wp_bind]
  refine h.mono fun y S2 ⟨d, e, h⟩ => ?_
  rw [e]
  exact ⟨h⟩
theorem r_get2 (h : wp (a L S) fun o S1 => (∃ r, dLook S1 o (.int 0) = some r) ∧ wp (b L S1) fun y S2 => wp (c L S2) fun z S3 => ∃ r, dLook S3 o y = some r ∧ P (r.getD z) S3) : wp (eGet2 a b c L S) P := by
  unfold eGet2
  rw [wp_bind]
  refine h.mono fun o S1 ⟨⟨r, e⟩, h⟩ => ?_
  rw [e]
  dsimp only
  rw [wp_bind]
  refine h.mono fun y S2 h => ?_
  rw [wp_bind]
  refine h.mono fun z S3 ⟨r, e, h⟩ => ?_
  rw [e]
  exact ⟨h⟩
theorem q_putD (h : wp (c L S) fun d S1 => wp (a L S1) fun o S2 => wp (b L S2) fun y S3 => ∃ n q kvs, o = .obj n ∧ kKey y = some q ∧ S3[n]? = some (.dK kvs) ∧ kvs.length < sizeLine ∧ PS .nx L (S3.set n (.dK (dPutK kvs q d)))) : wps (sPutD a b c L S) PS := by
  unfold sPutD
  rw [wps_st]
  refine h.mono fun d S1 h => ?_
  rw [wps_st]
  refine h.mono fun o S2 h => ?_
  rw [wps_st]
  refine h.mono fun y S3 ⟨n, q, kvs, e, e1, e2, hl, h9⟩ => ?_
  subst e
  simp only [e1, e2]
  rw [if_pos hl]
  exact ⟨h9⟩
theorem r_setK (h : wp (a L S) fun o S1 => (∃ r, dLook S1 o (.int 0) = some r) ∧ wp (b L S1) fun y S2 => wp (c L S2) fun z S3 => ∃ n q kvs, o = .obj n ∧ kKey y = some q ∧ S3[n]? = some (.dK kvs) ∧ kvs.length < sizeLine ∧
    (∀ d, dGetK kvs q = some d → P d S3) ∧ (dGetK kvs q = none → P z (S3.set n (.dK (dPutK kvs q z))))) : wp (eSetK a b c L S) P := by
  unfold eSetK
  rw [wp_bind]
  refine h.mono fun o S1 ⟨⟨r, e⟩, h⟩ => ?_
  rw [e]
  dsimp only
  rw [wp_bind]
  refine h.mono fun y S2 h => ?_
  rw [wp_bind]
  refine h.mono fun z S3 ⟨n, q, kvs, e0, e1, e2, hl, h1, h2⟩ => ?_
  subst e0
  simp only [e1, e2]
  rw [if_pos hl]
  cases g : dGetK kvs q with
  | none => exact ⟨h2 g⟩
  | some d => exact ⟨h1 d g⟩
theorem r_setN (h : wp (a L S) fun o S1 => isDN S1 o = true ∧ wp (b L S1) fun y S2 => wp (c L S2) fun z S3 => ∃ n q kvs, o = .obj n ∧ kNk y = some q ∧ S3[n]? = some (.dN kvs) ∧ kvs.length < sizeLine ∧
    (∀ d, nGet kvs q = some d → P d S3) ∧ (nGet kvs q = none → P z (S3.set n (.dN (kvs ++ [(q, z)]))))) : wp (eSetN a b c L S) P := by
  unfold eSetN
  rw [wp_bind]
  refine h.mono fun o S1 ⟨e, h⟩ => ?_
  rw [if_pos e]
  rw [wp_bind]
  refine h.mono fun y S2 h => ?_
  rw [wp_bind]
  refine h.mono fun z S3 ⟨n, q, kvs, e0, e1, e2, hl, h1, h2⟩ => ?_
  subst e0
  simp only [e1, e2]
  rw [if_pos hl]
  cases g : nGet kvs q with
  | none => exact ⟨h2 g⟩
  | some d => exact ⟨h1 d g⟩
theorem r_sup (h : ∃ d, L[(0 : Nat)]? = some (.v d) ∧ ∃ c ns ds, insOf S d = some (c, ns, ds) ∧ c ∈ cs ∧ wp (ma L S) fun as S1 => wp (F (d :: as) S1) P) : wp (eSup cs F ma L S) P := by
  obtain ⟨d, e, c, ns, ds, e1, hc, h⟩ := h
  unfold eSup
  rw [e]
  simp only [e1]
  rw [if_pos hc, wp_bind]
  exact h
theorem q_appO (h : wp (a L S) fun o S1 => ∃ n ds0, o = .obj n ∧ S1[n]? = some (.lst ds0) ∧ wp (b L S1) fun d S2 => ∃ ds, S2[n]? = some (.lst ds) ∧ ds.length < sizeLine ∧ PS .nx L (S2.set n (.lst (ds ++ [d])))) : wps (sAppO a b L S) PS := by
  unfold sAppO
  rw [wps_st]
  refine h.mono fun o S1 ⟨n, ds0, e, e1, h⟩ => ?_
  subst e
  simp only [e1]
  rw [wps_st]
  refine h.mono fun d S2 ⟨ds, e2, hl, h⟩ => ?_
  simp only [e2]
  rw [if_pos hl]
  exact ⟨h⟩
instance : Wp (eFl cs f a L S) P (wp (a L S) fun d S1 => ∃ c ns ds, insOf S1 d = some (c, ns, ds) ∧ c ∈ cs ∧ ∃ z, fGet f ns ds = some z ∧ P z S1) := ⟨r_fl⟩
instance : Ws (sFl cs f a b L S) PS (wp (b L S) fun d S1 => wp (a L S1) fun o S2 => ∃ n c ns ds, o = .obj n ∧ S2[n]? = some (.ins c ns ds) ∧ c ∈ cs ∧ ns.length < 900 ∧ PS .nx L (S2.set n (.ins c (fPut f d ns ds).1 (fPut f d ns ds).2))) := ⟨q_fl⟩
instance : Ws (sFlA cs f oo a b L S) PS (wp (a L S) fun o S1 => ∃ n c ns ds x, o = .obj n ∧ S1[n]? = some (.ins c ns ds) ∧ c ∈ cs ∧ fGet f ns ds = some x ∧ wp (b L S1) fun y S2 => ∃ z, oo (deref S2 x) (deref S2 y) = some z ∧
    ∃ ns' ds', S2[n]? = some (.ins c ns' ds') ∧ ns'.length < 900 ∧ PS .nx L (S2.set n (.ins c (fPut f z ns' ds').1 (fPut f z ns' ds').2))) := ⟨q_flA⟩
instance : Wp (eMt x ms a ma L S) P (wp (a L S) fun d S1 => ∃ c ns ds, insOf S1 d = some (c, ns, ds) ∧ ∃ F, ms.lookup c = some F ∧ fGet x ns ds = none ∧ wp (ma L S1) fun as S2 => wp (F (d :: as) S2) P) := ⟨r_mt⟩
instance : Wp (eMk x F ma L S) P (wp (ma L S) fun ds S1 => @wp noXP _ (F (.obj S1.length :: ds) (S1 ++ [.ins x [] []])) fun d S2 => d = .non ∧ P (.obj S1.length) S2) := ⟨r_mk⟩
instance : Wp (eFnD F dds ma L S) P (wp (ma L S) fun ds S1 => wp (F (ds ++ dds) S1) P) := ⟨r_fnD⟩
instance : Wp (eFnK F n nn ma mk L S) P (wp (ma L S) fun ds S1 => wp (mk L S1) fun zs S2 => ds.length = n ∧ zs.length = nn ∧ @wp noXP _ (F (ds ++ zs) S2) P) := ⟨r_fnK⟩
instance : Wp (eCaL i fs ma L S) P (∃ x, L[i]? = some (.v (.gl x)) ∧ ∃ F, fs.lookup x = some F ∧ wp (ma L S) fun ds S1 => wp (F ds S1) P) := ⟨r_caL⟩
instance : Wp (eNwK L S) P (P (.obj S.length) (S ++ [.dK []])) := ⟨r_nwK⟩
instance : Wp (eNwN L S) P (P (.obj S.length) (S ++ [.dN []])) := ⟨r_nwN⟩
instance : Wp (eGetO a b L S) P (wp (a L S) fun o S1 => wp (b L S1) fun y S2 => ∃ d, dLook S2 o y = some (some d) ∧ P d S2) := ⟨r_getO⟩
instance : Wp (eInO ng a b L S) P (wp (a L S) fun y S1 => wp (b L S1) fun o S2 => ∃ r, dLook S2 o y = some r ∧ P (.bl (ng != r.isSome)) S2) := ⟨r_inO⟩
instance : Wp (eGet2 a b c L S) P (wp (a L S) fun o S1 => (∃ r, dLook S1 o (.int 0) = some r) ∧ wp (b L S1) fun y S2 => wp (c L S2) fun z S3 => ∃ r, dLook S3 o y = some r ∧ P (r.getD z) S3) := ⟨r_get2⟩
instance : Ws (sPutD a b c L S) PS (wp (c L S) fun d S1 => wp (a L S1) fun o S2 => wp (b L S2) fun y S3 => ∃ n q kvs, o = .obj n ∧ kKey y = some q ∧ S3[n]? = some (.dK kvs) ∧ kvs.length < sizeLine ∧ PS .nx L (S3.set n (.dK (dPutK kvs q d)))) := ⟨q_putD⟩
instance : Wp (eSetK a b c L S) P (wp (a L S) fun o S1 => (∃ r, dLook S1 o (.int 0) = some r) ∧ wp (b L S1) fun y S2 => wp (c L S2) fun z S3 => ∃ n q kvs, o = .obj n ∧ kKey y = some q ∧ S3[n]? = some (.dK kvs) ∧ kvs.length < sizeLine ∧
    (∀ d, dGetK kvs q = some d → P d S3) ∧ (dGetK kvs q = none → P z (S3.set n (.dK (dPutK kvs q z))))) := ⟨r_setK⟩
instance : Wp (eSetN a b c L S) P (wp (a L S) fun o S1 => isDN S1 o = true ∧ wp (b L S1) fun y S2 => wp (c L S2) fun z S3 => ∃ n q kvs, o = .obj n ∧ kNk y = some q ∧ S3[n]? = some (.dN kvs) ∧ kvs.length < sizeLine ∧
    (∀ d, nGet kvs q = some d → P d S3) ∧ (nGet kvs q = none → P z (S3.set n (.dN (kvs ++ [(q, z)]))))) := ⟨r_setN⟩
instance : Wp (eSup cs F ma L S) P (∃ d, L[(0 : Nat)]? = some (.v d) ∧ ∃ c ns ds, insOf S d = some (c, ns, ds) ∧ c ∈ cs ∧ wp (ma L S) fun as S1 => wp (F (d :: as) S1) P) := ⟨r_sup⟩
end
end Rf
set_option Elab.async false
set_option linter.all false
set_option maxRecDepth 100000
set_option maxHeartbeats 1000000
namespace Rf
open PySem L2 TL
structure MthIn (P : Program) (w : World) (K : PySem.W.Frag) (mg : Str → Option Value) (base : Heap) (D m : Str) (j : Nat) (c : Fn) : Prop where
  ex : ∃ (fd : FuncData) (ps : List Str), FnOkG P w K mg base (L2.CX P w) j (He.ma K (He.ga K D) m) fd ps (spC (k0 K mg w) c) ∧ Binds K fd ps []
/-- the class c has the method m of the class D -/
def MthF (K : PySem.W.Frag) (mg : Str → Option Value) (c D m : Str) : Prop := ∃ C, mg c = some (.ref C) ∧ Cls K C ∧ Meth K C m (He.ma K (He.ga K D) m)
theorem MthIn.at {P : Program} {w : World} {K : PySem.W.Frag} {mg : Str → Option Value} {base : Heap} {D m c : Str} {i j : Nat} {F : Fn} {X : Cx} (h : MthIn P w K mg base D m j F) (f : MthF K mg c D m) (hr : RoomG i X.A) (hl : j ≤ i)
    (h1 : X.prog = P) (h2 : X.w = w) (h3 : X.K = K) (h4 : X.mg = mg) (h5 : X.base = base) : MthC X m c F := by
  subst h1 h2 h3 h4 h5
  obtain ⟨fd, ps, F, hb⟩ := h.ex
  obtain ⟨C, hC, cl, mt⟩ := f
  exact ⟨C, _, fd, ps, j, hC, cl, mt, F, hr.mono hl, hb⟩
abbrev FnS : Type := Option (Str × Str × Arguments × FuncBody × Scope × Addr × List Str × Addr)
def fnS (K : PySem.W.Frag) (p : Str × Option Str) : FnS := match K.lookup (He.fAd K p) with
  | some ⟨_, _, .func fd, _⟩ => some (fd.name, fd.qualname, fd.params, fd.body, fd.scope, fd.globals, fd.closure.map (·.1), fd.builtins)
  | _ => none
def valS (d : He.DefD) : FnS := some (d.name, d.qual, d.params, .stmts d.body, d.scope, mainGlobals, ["__class__"], builtinsNs)
def frS (n : Nat) (g : Addr → Option Obj) : PySem.W.Frag := He.frG g (He.asD g n ++ [PySem.cStatics])
def hookS (n : Nat) (fa : List He.Fa) (fn fs : List He.DefD) (ts : List He.Tab) (ck : PySem.W.Frag → Bool) : PySem.W.Hook where
  α := He.AlT × Bool × List FnS
  obs := fun s => (He.obsT fa fn ts (frS n s.heap.get?), ck (frS n s.heap.get?), fs.map fun d => fnS (frS n s.heap.get?) d.at_)
  val := fun w => (He.valT fn ts w, true, fs.map valS)
  says := fun w h => ∃ K : PySem.W.Frag, K.In h ∧ He.SaysT fa fn ts w K ∧ ck K = true ∧ (fs.map fun d => fnS K d.at_) = fs.map valS
  of := fun w s e => ⟨frS n s.heap.get?, He.frG_in, congrArg (fun z : He.AlT × Bool × List FnS => z.1) e, congrArg (fun z : He.AlT × Bool × List FnS => z.2.1) e, congrArg (fun z : He.AlT × Bool × List FnS => z.2.2) e⟩
  keeps := fun _ _ _ ⟨K, hK, c⟩ k => ⟨K, PySem.W.Frag.In.keeps hK k, c⟩
def obS (n : Nat) (fa : List He.Fa) (fn fs : List He.DefD) (ts : List He.Tab) (ck : PySem.W.Frag → Bool) (g : Addr → Option Obj) : He.AlT × Bool × List FnS := (He.obsT fa fn ts (frS n g), ck (frS n g), fs.map fun d => fnS (frS n g) d.at_)
theorem obS_eq {n : Nat} {fa : List He.Fa} {fn fs : List He.DefD} {ts : List He.Tab} {ck : PySem.W.Frag → Bool} {g : Addr → Option Obj} {s : Shared} (h : ∀ a, g a = s.heap.get? a) : obS n fa fn fs ts ck g = (hookS n fa fn fs ts ck).obs s := by
  have e : g = s.heap.get? := funext h
  rw [e] <;> rfl
end Rf
set_option Elab.async false
set_option linter.all false
set_option maxRecDepth 100000
set_option maxHeartbeats 1000000
namespace Rf
open PySem L2 TL
mutual
def dD : D → Option PyData
  | .non => some .none
  | .bl b => some (.bool b)
  | .int i => some (.int i)
  | .str x => some (.str ⟨x.toArray⟩)
  | .tup ds => (dDs ds).map .tuple
  | .lst ds => (dDs ds).map .list
  | _ => none
def dDs : List D → Option (List PyData)
  | [] => some []
  | d :: ds => match dD d, dDs ds with
    | some k, some ks => some (k :: ks)
    | _, _ => none
end
def reprD (p : PyData) : Option (List Nat) := if p.showable = true ∧ p.shown.length ≤ sizeLine ∧ p.depth ≤ 50 then some p.shown.cps.toList else none
def bRepr : List D → Option D
  | [.tup ds] => (dD (.tup ds)).bind fun p => (reprD p).map .str
  | [.lst ds] => (dD (.lst ds)).bind fun p => (reprD p).map .str
  | _ => none
end Rf
set_option Elab.async false
set_option linter.all false
set_option maxRecDepth 100000
set_option maxHeartbeats 0
namespace Rf
open PySem L2 TL
end Rf
set_option Elab.async false
set_option linter.all false
set_option maxRecDepth 100000
set_option maxHeartbeats 1000000
namespace Rf
open PySem L2 TL
def nxE (Q : L2.St → Hp → Prop) : Ends := { nx := Q, bk := fun _ _ => False, ct := fun _ _ => False, rt := fun _ _ => False }
/-- a target: what is done with a value -/
abbrev TM := D → SM
def tmS : List TM → List D → SM
  | [], [] => fun L S => .ok .nx L S
  | t :: ts, d :: ds => fun L S => (t d L S).seq fun L S => tmS ts ds L S
  | _, _ => fun _ _ => .no
def tmNm (i : Nat) : TM := fun d L S => .ok .nx (L.set i (.v d)) S
/-- a place of a list of the store, a key of a dict of the store -/
def tmSub (mo mk : EM) : TM := fun d L S => (mo L S).st L fun o S2 => (mk L S2).st L fun y S3 => match o with
  | .obj n => match S3[n]?, y with
    | some (.lst ds), .int k => match ixN ds.length k with
      | some j => .ok .nx L (S3.set n (.lst (ds.set j d)))
      | none => .no
    | some (.dK kvs), y => match kKey y with
      | some q => if kvs.length < sizeLine then .ok .nx L (S3.set n (.dK (dPutK kvs q d))) else .no
      | none => .no
    | _, _ => .no
  | _ => .no
theorem PSet.or {X : Cx} {t t' : TSet} (h : PSet X t) (h' : PSet X t') : PSet X (fun o i v H Q => t o i v H Q ∨ t' o i v H Q) := fun pins s σ H o i v ov iv u Q I r1 r2 r3 q => q.elim (h pins s σ H o i v ov iv u Q I r1 r2 r3) (h' pins s σ H o i v ov iv u Q I r1 r2 r3)
section
variable {X : Cx} {W : WX} {pos ps : Pos} {i kk : Nat} {x : Str} {e o ix : Expr} {es : List Expr} {tm : TM} {tms : List TM} {mo mk m : EM}
def RS.nxO (r : RS) : RS := match r with
  | .ok .nx L S => .ok .nx L S
  | .ex x L S => .ex x L S
  | _ => .no
theorem SPost.nxO {k : Kx} {B : Hp} {gB : G} {H : Hp} {g : G} {r : RS} {D : Ends} (p : SPost k B gB W H g r.nxO D) : SPost k B gB W H g r (nxE D.nx) := by
  cases r with
  | ok fl L S =>
    cases fl with
    | nx => exact p
    | _ => exact p.elim
  | ex x L S => exact p
  | no => exact p
/-- a, b = .. : the values of a new tuple go to the targets one by one -/
def sTm (tms : List TM) (m : EM) : SM := fun L S => (m L S).st L fun d S1 => match d with
  | .tup ds => if ds.length = tms.length then (tmS tms ds L S1).nxO else .no
  | _ => .no
end
section
variable {xp : ExP} {PS : Fl → Ls → Sto → Prop} {L : Ls} {S : Sto} {m mo mk : EM} {tms : List TM} {tm : TM} {d : D} {ds : List D} {i : Nat}
theorem nxO_wps {r : RS} (h : wps r fun fl L S => fl = .nx ∧ PS .nx L S) : wps r.nxO PS := by
  cases r with
  | ok fl L S =>
    obtain ⟨e, k⟩ := (show fl = .nx ∧ PS .nx L S from h.out)
    subst e
    exact ⟨k⟩
  | ex x L S => exact ⟨h.out⟩
  | no => exact h.out.elim
theorem q_tm (h : wp (m L S) fun d S1 => ∃ ds, d = .tup ds ∧ ds.length = tms.length ∧ wps (tmS tms ds L S1) fun fl L S => fl = .nx ∧ PS .nx L S) : wps (sTm tms m L S) PS := by
  unfold sTm
  rw [wps_st]
  refine h.mono fun d S1 ⟨ds, e, hl, h⟩ => ?_
  subst e
  dsimp only
  rw [if_pos hl]
  exact nxO_wps h
theorem q_tmNil (h : PS .nx L S) : wps (tmS [] [] L S) PS := ⟨h⟩
theorem q_tmCons (h : wps (tm d L S) fun fl L1 S1 => match fl with
    | .nx => wps (tmS tms ds L1 S1) PS
    | fl => PS fl L1 S1) : wps (tmS (tm :: tms) (d :: ds) L S) PS := by
  unfold tmS
  rw [wps_seq]
  exact h
theorem q_tmNm (h : ∀ L', L.set i (.v d) = L' → PS .nx L' S) : wps (tmNm i d L S) PS := ⟨h _ rfl⟩
theorem q_tmSub (h : wp (mo L S) fun o S2 => wp (mk L S2) fun y S3 => ∃ n, o = .obj n ∧ ((∃ k xs j, y = .int k ∧ S3[n]? = some (.lst xs) ∧ ixN xs.length k = some j ∧ ∀ S', S3.set n (.lst (xs.set j d)) = S' → PS .nx L S') ∨
    (∃ q kvs, kKey y = some q ∧ S3[n]? = some (.dK kvs) ∧ kvs.length < sizeLine ∧ ∀ S', S3.set n (.dK (dPutK kvs q d)) = S' → PS .nx L S'))) : wps (tmSub mo mk d L S) PS := by
  unfold tmSub
  rw [wps_st]
  refine h.mono fun o S2 h2 => ?_
  rw [wps_st]
  refine h2.mono fun y S3 h3 => ?_
  obtain ⟨n, e, k3⟩ := h3
  subst e
  dsimp only
  rcases k3 with ⟨k, xs, j, rfl, e1, e2, k4⟩ | ⟨q, kvs, e1, e2, hl, k4⟩
  · rw [e1]
    dsimp only
    rw [e2]
    exact ⟨k4 _ rfl⟩
  · rw [e2]
    dsimp only
    rw [e1]
    dsimp only
    rw [if_pos hl]
    exact ⟨k4 _ rfl⟩
instance : Ws (sTm tms m L S) PS (wp (m L S) fun d S1 => ∃ ds, d = .tup ds ∧ ds.length = tms.length ∧ wps (tmS tms ds L S1) fun fl L S => fl = .nx ∧ PS .nx L S) := ⟨q_tm⟩
instance : Ws (tmS [] [] L S) PS (PS .nx L S) := ⟨q_tmNil⟩
instance : Ws (tmS (tm :: tms) (d :: ds) L S) PS (wps (tm d L S) fun fl L1 S1 => match fl with
    | .nx => wps (tmS tms ds L1 S1) PS
    | fl => PS fl L1 S1) := ⟨q_tmCons⟩
instance : Ws (tmNm i d L S) PS (∀ L', L.set i (.v d) = L' → PS .nx L' S) := ⟨q_tmNm⟩
instance : Ws (tmSub mo mk d L S) PS (wp (mo L S) fun o S2 => wp (mk L S2) fun y S3 => ∃ n, o = .obj n ∧ ((∃ k xs j, y = .int k ∧ S3[n]? = some (.lst xs) ∧ ixN xs.length k = some j ∧ ∀ S', S3.set n (.lst (xs.set j d)) = S' → PS .nx L S') ∨
    (∃ q kvs, kKey y = some q ∧ S3[n]? = some (.dK kvs) ∧ kvs.length < sizeLine ∧ ∀ S', S3.set n (.dK (dPutK kvs q d)) = S' → PS .nx L S'))) := ⟨q_tmSub⟩
end
end Rf
set_option Elab.async false
set_option linter.all false
set_option maxRecDepth 100000
set_option maxHeartbeats 1000000
namespace Rf
open PySem L2 TL
inductive PV where
  | v (m : EM) | o (m : Ls → Sto → R (List D))
def pvE : PV → Ls → Sto → R LV
  | .v m, L, S => (m L S).bind fun d S1 => .ok (.v d) S1
  | .o m, L, S => (m L S).bind fun ds S1 => .ok (.o (.lst ds)) S1
def PvRep (k : Kx) (H0 H : Hp) (g : G) : LV → V → Prop
  | .v d, v => Rep k H g d v
  | .o (.lst ds), v => FRep k H0 H g ds v
  | _, _ => False
section
variable {X : Cx} {W : WX} {pos : Pos} {e a b c : Expr} {m : EM} {mf : Ls → Sto → R (List D)} {i j l : Nat} {x y z : Str}
theorem PvRep.ext {k : Kx} {H0 H H' : Hp} {g g' : G} {lv : LV} {v : V} (e : Ext H g H' g') (r : PvRep k H0 H g lv v) : PvRep k H0 H' g' lv v := by
  cases lv with
  | v d => exact Rep.mono e.toPExt _ _ r
  | o u =>
    cases u with
    | lst ds =>
      obtain ⟨a, h1, h2, h3⟩ := r
      exact ⟨a, h1, h2, h3.ext e⟩
    | _ => exact r.elim
  | un => exact r.elim
  | exc x => exact r.elim
def sPv2 (i j : Nat) (a b : PV) : SM := fun L S => (pvE a L S).st L fun x S1 => (pvE b L S1).st L fun y S2 => .ok .nx ((L.set i x).set j y) S2
def sPv3 (i j l : Nat) (a b c : PV) : SM := fun L S => (pvE a L S).st L fun x S1 => (pvE b L S1).st L fun y S2 => (pvE c L S2).st L fun z S3 => .ok .nx (((L.set i x).set j y).set l z) S3
end
section
variable {xp : ExP} {PS : Fl → Ls → Sto → Prop} {PV' : LV → Sto → Prop} {L : Ls} {S : Sto} {m : EM} {mf : Ls → Sto → R (List D)} {A B C : PV} {i j l : Nat}
theorem r_pvV (h : wp (m L S) fun d S1 => PV' (.v d) S1) : wp (pvE (.v m) L S) PV' := by
  unfold pvE
  rw [wp_bind]
  exact h.mono fun d S1 k => ⟨k⟩
theorem r_pvO (h : wp (mf L S) fun ds S1 => PV' (.o (.lst ds)) S1) : wp (pvE (.o mf) L S) PV' := by
  unfold pvE
  rw [wp_bind]
  exact h.mono fun d S1 k => ⟨k⟩
theorem q_pv2 (h : wp (pvE A L S) fun x S1 => wp (pvE B L S1) fun y S2 => ∀ L', (L.set i x).set j y = L' → PS .nx L' S2) : wps (sPv2 i j A B L S) PS := by
  unfold sPv2
  rw [wps_st]
  refine h.mono fun x S1 h => ?_
  rw [wps_st]
  exact h.mono fun y S2 k => ⟨k _ rfl⟩
theorem q_pv3 (h : wp (pvE A L S) fun x S1 => wp (pvE B L S1) fun y S2 => wp (pvE C L S2) fun z S3 => ∀ L', ((L.set i x).set j y).set l z = L' → PS .nx L' S3) : wps (sPv3 i j l A B C L S) PS := by
  unfold sPv3
  rw [wps_st]
  refine h.mono fun x S1 h => ?_
  rw [wps_st]
  refine h.mono fun y S2 h => ?_
  rw [wps_st]
  exact h.mono fun z S3 k => ⟨k _ rfl⟩
instance : Wp (pvE (.v m) L S) PV' (wp (m L S) fun d S1 => PV' (.v d) S1) := ⟨r_pvV⟩
instance : Wp (pvE (.o mf) L S) PV' (wp (mf L S) fun ds S1 => PV' (.o (.lst ds)) S1) := ⟨r_pvO⟩
instance : Ws (sPv2 i j A B L S) PS (wp (pvE A L S) fun x S1 => wp (pvE B L S1) fun y S2 => ∀ L', (L.set i x).set j y = L' → PS .nx L' S2) := ⟨q_pv2⟩
instance : Ws (sPv3 i j l A B C L S) PS (wp (pvE A L S) fun x S1 => wp (pvE B L S1) fun y S2 => wp (pvE C L S2) fun z S3 => ∀ L', ((L.set i x).set j y).set l z = L' → PS .nx L' S3) := ⟨q_pv3⟩
end
end Rf
set_option Elab.async false
set_option linter.all false
set_option maxRecDepth 100000
set_option maxHeartbeats 4000000
namespace Rf
open PySem PySem.Spec PyProof.Rows L2 TL
section
variable {X : Cx}
/-- tuple * int for every number of times, else as oMul -/
def oMulU : D → D → Option D
  | .tup a, .int b => if -(2 ^ 63) ≤ b ∧ b ≤ 1000 ∧ a.length ≤ 1000 then some (.tup (List.replicate b.toNat a).flatten) else none
  | d, e => oMul d e
end
theorem x_mulUi {a b : Int} (h : a.natAbs.log2 + b.natAbs.log2 < 1000000) : oMulU (.int a) (.int b) = some (.int (a * b)) := if_pos h
theorem x_mulUt {a : List D} {b : Int} (h : -(2 ^ 63) ≤ b ∧ b ≤ 1000 ∧ a.length ≤ 1000) : oMulU (.tup a) (.int b) = some (.tup (List.replicate b.toNat a).flatten) := if_pos h
instance {a b : Int} : Og (oMulU (.int a) (.int b)) (.int (a * b)) (a.natAbs.log2 + b.natAbs.log2 < 1000000) := ⟨x_mulUi⟩
instance {a : List D} {b : Int} : Og (oMulU (.tup a) (.int b)) (.tup (List.replicate b.toNat a).flatten) (-(2 ^ 63) ≤ b ∧ b ≤ 1000 ∧ a.length ≤ 1000) := ⟨x_mulUt⟩
end Rf
set_option Elab.async false
set_option linter.all false
set_option maxRecDepth 100000
set_option maxHeartbeats 1000000
namespace Rf
open PySem L2 TL
def txKs : DctK → Option (List (List Nat))
  | [] => some []
  | (.inr s, _) :: r => (txKs r).map (s.cps.toList :: ·)
  | (.inl _, _) :: _ => none
/-- sorted(d) -/
def fSrtK (mo : EM) : Ls → Sto → R (List D) := fun L S => (mo L S).bind fun o S1 => match o with
  | .obj n => match S1[n]? with
    | some (.dK kvs) => match txKs kvs with
      | some ks => if ks.length < 64 ∧ ks.Nodup then .ok ((sortU ks).map .str) S1 else .no
      | none => .no
    | _ => .no
  | _ => .no
theorem r_fSrtK {m : EM} {L : Ls} {S : Sto} {xp : ExP} {PL : List D → Sto → Prop} (h : wp (m L S) fun o S1 => ∃ n kvs ks, o = .obj n ∧ S1[n]? = some (.dK kvs) ∧ txKs kvs = some ks ∧ ks.length < 64 ∧ ks.Nodup ∧ PL ((sortU ks).map .str) S1) : wp (fSrtK m L S) PL := by
  unfold fSrtK
  rw [wp_bind]
  refine h.mono fun o S1 ⟨n, kvs, ks, e, e1, e2, e3, e4, k⟩ => ?_
  subst e
  dsimp only
  rw [e1]
  dsimp only
  rw [e2]
  dsimp only
  rw [if_pos ⟨e3, e4⟩]
  exact ⟨k⟩
instance {m : EM} {L : Ls} {S : Sto} {xp : ExP} {PL : List D → Sto → Prop} : Wp (fSrtK m L S) PL (wp (m L S) fun o S1 => ∃ n kvs ks, o = .obj n ∧ S1[n]? = some (.dK kvs) ∧ txKs kvs = some ks ∧ ks.length < 64 ∧ ks.Nodup ∧ PL ((sortU ks).map .str) S1) := ⟨r_fSrtK⟩
def prE : List (EM × EM) → Ls → Sto → R (List (D × D))
  | [], _, S => .ok [] S
  | (mk, mv) :: r, L, S => (mk L S).bind fun x S1 => (mv L S1).bind fun y S2 => (prE r L S2).bind fun ps S3 => .ok ((x, y) :: ps) S3
def kyPs : List (D × D) → Option DctK
  | [] => some []
  | (x, y) :: r => match kKey x, kyPs r with
    | some q, some ps => some ((q, y) :: ps)
    | _, _ => none
def mgK (kvs more : DctK) : DctK := more.foldl (fun acc kv => dPutK acc kv.1 kv.2) kvs
def eDisp (prs : List (EM × EM)) : EM := fun L S => (prE prs L (S ++ [.dK []])).bind fun ps S1 => match S1[S.length]?, kyPs ps with
  | some (.dK []), some kvs => if kvs.length ≤ 15 then .ok (.obj S.length) (S1.set S.length (.dK (mgK [] kvs))) else .no
  | _, _ => .no
section
variable {L : Ls} {S : Sto} {xp : ExP} {P : D → Sto → Prop} {PP : List (D × D) → Sto → Prop}
theorem r_prNil (h : PP [] S) : wp (prE [] L S) PP := ⟨h⟩
theorem r_prCons {mk mv : EM} {r : List (EM × EM)} (h : wp (mk L S) fun x S1 => wp (mv L S1) fun y S2 => wp (prE r L S2) fun ps S3 => PP ((x, y) :: ps) S3) : wp (prE ((mk, mv) :: r) L S) PP := by
  unfold prE
  rw [wp_bind]
  refine h.mono fun x S1 k => ?_
  rw [wp_bind]
  refine k.mono fun y S2 k => ?_
  rw [wp_bind]
  exact k.mono fun ps S3 k => ⟨k⟩
instance : Wp (prE [] L S) PP (PP [] S) := ⟨r_prNil⟩
instance {mk mv : EM} {r : List (EM × EM)} : Wp (prE ((mk, mv) :: r) L S) PP (wp (mk L S) fun x S1 => wp (mv L S1) fun y S2 => wp (prE r L S2) fun ps S3 => PP ((x, y) :: ps) S3) := ⟨r_prCons⟩
theorem r_disp {prs : List (EM × EM)} (h : ∀ S0, S ++ [.dK []] = S0 → wp (prE prs L S0) fun ps S1 => ∀ n, S.length = n → S1[n]? = some (.dK []) ∧ ∃ kvs, kyPs ps = some kvs ∧ kvs.length ≤ 15 ∧ ∀ S', S1.set n (.dK (mgK [] kvs)) = S' → P (.obj n) S') : wp (eDisp prs L S) P := by
  unfold eDisp
  rw [wp_bind]
  refine (h _ rfl).mono fun ps S1 k => ?_
  obtain ⟨e1, kvs, e2, e3, k⟩ := k _ rfl
  rw [e1, e2]
  dsimp only
  rw [if_pos e3]
  exact ⟨k _ rfl⟩
instance {prs : List (EM × EM)} : Wp (eDisp prs L S) P (∀ S0, S ++ [.dK []] = S0 → wp (prE prs L S0) fun ps S1 => ∀ n, S.length = n → S1[n]? = some (.dK []) ∧ ∃ kvs, kyPs ps = some kvs ∧ kvs.length ≤ 15 ∧ ∀ S', S1.set n (.dK (mgK [] kvs)) = S' → P (.obj n) S') := ⟨r_disp⟩
end
end Rf
set_option Elab.async false
set_option linter.all false
set_option maxRecDepth 100000
set_option maxHeartbeats 1000000
namespace Rf
open PySem L2 TL
def fSl (ma : EM) (ml mh : Ls → Sto → R (Option Int)) : Ls → Sto → R (List D) := fun L S => (ma L S).bind fun d S1 => (ml L S1).bind fun lo S2 => (mh L S2).bind fun hi S3 => match deref S3 d with
  | .lst xs => .ok (cutD xs lo hi) S3
  | _ => .no
instance {m : EM} {ml mh : Ls → Sto → R (Option Int)} {L : Ls} {S : Sto} {xp : ExP} {PL : List D → Sto → Prop} : Wp (fSl m ml mh L S) PL (wp (m L S) fun d S1 => wp (ml L S1) fun lo S2 => wp (mh L S2) fun hi S3 => ∃ xs, deref S3 d = .lst xs ∧ PL (cutD xs lo hi) S3) := ⟨fun h => by
  unfold fSl
  rw [wp_bind]
  refine h.mono fun d S1 k => ?_
  rw [wp_bind]
  refine k.mono fun lo S2 k => ?_
  rw [wp_bind]
  refine k.mono fun hi S3 ⟨xs, e, k⟩ => ?_
  rw [e]
  exact ⟨k⟩⟩
end Rf
set_option Elab.async false
set_option linter.all false
set_option maxRecDepth 100000
set_option maxHeartbeats 1000000
namespace Rf
open PySem L2 TL
def oIdx (ds : List D) (e : D) : Option D := if shp (.lst ds) && shp e then (ds.findIdx? fun z => eqv z e).map fun j : Nat => D.int (j : Int) else none
def eIdx (mo me : EM) : EM := fun L S => (mo L S).bind fun d S1 => match d with
  | .lst ds => (me L S1).bind fun y S2 => lift (oIdx ds y) S2
  | _ => .no
theorem r_idx {mo me : EM} {L : Ls} {S : Sto} {xp : ExP} {P : D → Sto → Prop} (h : wp (mo L S) fun d S1 => ∃ ds, d = .lst ds ∧ wp (me L S1) fun y S2 => ∃ z, oIdx ds y = some z ∧ P z S2) : wp (eIdx mo me L S) P := by
  unfold eIdx
  rw [wp_bind]
  refine h.mono fun d S1 ⟨ds, e, k⟩ => ?_
  subst e
  dsimp only
  rw [wp_bind]
  refine k.mono fun y S2 ⟨z, e, k⟩ => ?_
  rw [e]
  exact ⟨k⟩
instance {mo me : EM} {L : Ls} {S : Sto} {xp : ExP} {P : D → Sto → Prop} : Wp (eIdx mo me L S) P (wp (mo L S) fun d S1 => ∃ ds, d = .lst ds ∧ wp (me L S1) fun y S2 => ∃ z, oIdx ds y = some z ∧ P z S2) := ⟨r_idx⟩
end Rf
set_option Elab.async false
set_option linter.all false
set_option maxRecDepth 100000
set_option maxHeartbeats 4000000
namespace Rf
open PySem PySem.Spec PySem.SeqAt PyProof.Rows L2 TL
section
variable {X : Cx}
/-- plus and minus, the left one a truth value, too -/
def oAddU : D → D → Option D
  | .bl a, .int i => some (.int ((if a = true then (1 : Int) else 0) + i))
  | d, e => oAdd d e
def oSubU : D → D → Option D
  | .bl a, .int i => some (.int ((if a = true then (1 : Int) else 0) - i))
  | d, e => oSub d e
end
instance {a b : Int} : Op (oAddU (.int a) (.int b)) (.int (a + b)) := ⟨rfl⟩
instance {a : Bool} {b : Int} : Op (oAddU (.bl a) (.int b)) (.int ((if a = true then (1 : Int) else 0) + b)) := ⟨rfl⟩
instance {a b : Int} : Op (oSubU (.int a) (.int b)) (.int (a - b)) := ⟨rfl⟩
instance {a : Bool} {b : Int} : Op (oSubU (.bl a) (.int b)) (.int ((if a = true then (1 : Int) else 0) - b)) := ⟨rfl⟩
end Rf
set_option Elab.async false
set_option linter.all false
set_option maxRecDepth 100000
set_option maxHeartbeats 4000000
namespace Rf
open PySem L2 TL
/-- the class at C has no __init__ but object's -/
structure Mk0 (K : PySem.W.Frag) (C : Addr) : Prop where
  makes : PySem.W.makesIn K C = true
  init : PySem.W.findIn K (.ref C) "__init__" = some (some (.builtin "object.__init__"))
  kp : PySem.W.keepIn K (.ref C) = true
section
variable {X : Cx} {W : WX} {pos p : Pos}
/-- the class c of the module can be made without arguments -/
structure MkC0 (X : Cx) (c : Str) : Prop where
  ex : ∃ C, X.mg c = some (.ref C) ∧ Mk0 X.K C
def eMk0 (c : Str) : EM := fun L S => .ok (.obj S.length) (S ++ [.ins c [] []])
theorem r_mk0 {c : Str} {L : Ls} {S : Sto} {P : D → Sto → Prop} {xp : ExP} (h : ∀ n, S.length = n → ∀ S', S ++ [.ins c [] []] = S' → P (.obj n) S') : wp (eMk0 c L S) P := ⟨h _ rfl _ rfl⟩
instance {c : Str} {L : Ls} {S : Sto} {P : D → Sto → Prop} {xp : ExP} : Wp (eMk0 c L S) P (∀ n, S.length = n → ∀ S', S ++ [.ins c [] []] = S' → P (.obj n) S') := ⟨r_mk0⟩
end
section
variable {P : Program} {w : World} {K : PySem.W.Frag} {mg : Str → Option Value} {h : Heap} {fa : List He.Fa} {fn : List He.DefD} {c : Str}
def Mk0F (K : PySem.W.Frag) (mg : Str → Option Value) (c : Str) : Prop := ∃ C, mg c = some (.ref C) ∧ Mk0 K C
theorem Mk0F.at {X : Cx} (f : Mk0F K mg c) (h3 : X.K = K) (h4 : X.mg = mg) : MkC0 X c := by
  subst h3 h4
  exact ⟨f⟩
end
end Rf
set_option Elab.async false
set_option linter.all false
set_option maxRecDepth 100000
set_option maxHeartbeats 1000000
namespace Rf
open PySem L2 TL
def eLenK (mo : EM) : EM := fun L S => (mo L S).bind fun o S1 => match o with
  | .obj n => match S1[n]? with
    | some (.dK kvs) => .ok (.int (kvs.length : Nat)) S1
    | _ => .no
  | _ => .no
theorem r_lenK {m : EM} {L : Ls} {S : Sto} {xp : ExP} {P : D → Sto → Prop} (h : wp (m L S) fun o S1 => ∃ n kvs, o = .obj n ∧ S1[n]? = some (.dK kvs) ∧ P (.int (kvs.length : Nat)) S1) : wp (eLenK m L S) P := by
  unfold eLenK
  rw [wp_bind]
  refine h.mono fun o S1 ⟨n, kvs, e, e1, k⟩ => ?_
  subst e
  dsimp only
  rw [e1]
  exact ⟨k⟩
instance {m : EM} {L : Ls} {S : Sto} {xp : ExP} {P : D → Sto → Prop} : Wp (eLenK m L S) P (wp (m L S) fun o S1 => ∃ n kvs, o = .obj n ∧ S1[n]? = some (.dK kvs) ∧ P (.int (kvs.length : Nat)) S1) := ⟨r_lenK⟩
end Rf
set_option Elab.async false
set_option linter.all false
set_option maxRecDepth 100000
set_option maxHeartbeats 4000000
namespace Rf
open PySem L2 TL
def eIsI (ms : List (Str × Bool)) (mo : EM) : EM := fun L S => (mo L S).bind fun d S1 => match insOf S1 d with
  | some (c, _, _) => lift ((ms.lookup c).map D.bl) S1
  | none => .no
section
variable {X : Cx} {W : WX} {o : Expr} {D : Str} {p p2 pos : Pos} {ms : List (Str × Bool)} {mo : EM}
theorem r_isI {L : Ls} {S : Sto} {P : Rf.D → Sto → Prop} {xp : ExP} (h : wp (mo L S) fun d S1 => ∃ c ns ds, insOf S1 d = some (c, ns, ds) ∧ ∃ b, ms.lookup c = some b ∧ P (.bl b) S1) : wp (eIsI ms mo L S) P := by
  unfold eIsI
  rw [wp_bind]
  refine h.mono fun d S1 ⟨c, ns, ds, e1, b, e2, k⟩ => ?_
  rw [e1]
  dsimp only
  rw [e2]
  exact ⟨k⟩
instance {L : Ls} {S : Sto} {P : Rf.D → Sto → Prop} {xp : ExP} : Wp (eIsI ms mo L S) P (wp (mo L S) fun d S1 => ∃ c ns ds, insOf S1 d = some (c, ns, ds) ∧ ∃ b, ms.lookup c = some b ∧ P (.bl b) S1) := ⟨r_isI⟩
end
end Rf
set_option Elab.async false
set_option linter.all false
set_option maxRecDepth 100000
set_option maxHeartbeats 4000000
namespace Rf
open PySem L2 TL
structure CalC (X : Cx) (c : Str) (F : Fn) : Prop where
  ex : ∃ (C f : Addr) (fd : FuncData) (ps : List Str) (j : Nat), X.mg c = some (.ref C) ∧ StX.CallO X.K C f ∧ FnOkG X.prog X.w X.K X.mg X.base (L2.CX X.prog X.w) j f fd ps (spC (k0 X.K X.mg X.w) F) ∧ RoomG j X.A ∧ Binds X.K fd ps []
def eCo (ms : List (Str × Fn)) (mo : EM) (ma : Ls → Sto → R (List D)) : EM := fun L S => (mo L S).bind fun d S1 => match insOf S1 d with
  | some (c, _, _) => match ms.lookup c with
    | some F => (ma L S1).bind fun as S2 => match insOf S2 d with
      | some (c', _, _) => if c' = c then F (d :: as) S2 else .no
      | none => .no
    | none => .no
  | none => .no
section
variable {ms : List (Str × Fn)} {mo : EM} {ma : Ls → Sto → R (List D)} {L : Ls} {S : Sto} {P : D → Sto → Prop} {xp : ExP}
theorem r_co (h : wp (mo L S) fun d S1 => ∃ c ns ds, insOf S1 d = some (c, ns, ds) ∧ ∃ F, ms.lookup c = some F ∧ wp (ma L S1) fun as S2 => ∃ ns' ds', insOf S2 d = some (c, ns', ds') ∧ wp (F (d :: as) S2) P) : wp (eCo ms mo ma L S) P := by
  unfold eCo
  rw [wp_bind]
  refine h.mono fun d S1 ⟨c, ns, ds, e1, F, e2, k⟩ => ?_
  rw [e1]
  dsimp only
  rw [e2]
  dsimp only
  rw [wp_bind]
  refine k.mono fun as S2 ⟨ns', ds', e3, k⟩ => ?_
  rw [e3]
  dsimp only
  rw [if_pos rfl]
  exact k
instance : Wp (eCo ms mo ma L S) P (wp (mo L S) fun d S1 => ∃ c ns ds, insOf S1 d = some (c, ns, ds) ∧ ∃ F, ms.lookup c = some F ∧ wp (ma L S1) fun as S2 => ∃ ns' ds', insOf S2 d = some (c, ns', ds') ∧ wp (F (d :: as) S2) P) := ⟨r_co⟩
end
/-- instances of c are called by the __call__ of D -/
def CalF (K : PySem.W.Frag) (mg : Str → Option Value) (c D : Str) : Prop := ∃ C, mg c = some (.ref C) ∧ StX.CallO K C (He.ma K (He.ga K D) "__call__")
theorem MthIn.call {P : Program} {w : World} {K : PySem.W.Frag} {mg : Str → Option Value} {base : Heap} {D c : Str} {i j : Nat} {F : Fn} {X : Cx} (h : MthIn P w K mg base D "__call__" j F) (f : CalF K mg c D) (hr : RoomG i X.A) (hl : j ≤ i)
    (h1 : X.prog = P) (h2 : X.w = w) (h3 : X.K = K) (h4 : X.mg = mg) (h5 : X.base = base) : CalC X c F := by
  subst h1 h2 h3 h4 h5
  obtain ⟨fd, ps, F, hb⟩ := h.ex
  obtain ⟨C, hC, cl⟩ := f
  exact ⟨C, _, fd, ps, j, hC, cl, F, hr.mono hl, hb⟩
def spStar (k : Kx) (F : Fn) : Sp := fun vs H Q E => ∃ ws rest, vs = ws ++ rest ∧ ws.length = 1 ∧ rest.length ≤ sizeLine ∧ ∀ p, H p = none → spC k F (ws ++ [V.ref p]) (upd H p (.tup rest)) Q E
def eMkS (c : Str) (F : Fn) (ma : Ls → Sto → R (List D)) : EM := fun L S => (ma L S).bind fun ds S1 => if ds.length ≤ sizeLine then mkR S1.length (F [.obj S1.length, .tup ds] (S1 ++ [.ins c [] []])) else .no
section
variable {X : Cx} {W : WX} {e : Expr} {p pos : Pos} {es : List Expr} {ma : Ls → Sto → R (List D)} {c : Str} {F : Fn}
theorem spStar.kc {k k' : Kx} {F : Fn} {vs : List V} {H : Hp} {Q : VK} {E : XK} (h1 : k'.K = k.K) (h2 : k'.mg = k.mg) (h3 : k'.w = k.w) (h : spStar k F vs H Q E) : spStar k' F vs H Q E := by
  obtain ⟨ws, rest, e1, e2, e3, h⟩ := h
  exact ⟨ws, rest, e1, e2, e3, fun p hp => spC.kc h1 h2 h3 (h p hp)⟩
end
end Rf
set_option Elab.async false
set_option linter.all false
set_option maxRecDepth 100000
set_option maxHeartbeats 4000000
namespace Rf
open PySem L2 TL
section
variable {ma : Ls → Sto → R (List D)} {L : Ls} {S : Sto} {P : D → Sto → Prop} {xp : ExP} {c : Str} {F : Fn}
theorem r_mkS (h : wp (ma L S) fun ds S1 => ds.length ≤ sizeLine ∧ @wp noXP _ (F [.obj S1.length, .tup ds] (S1 ++ [.ins c [] []])) fun d S3 => d = .non ∧ P (.obj S1.length) S3) : wp (eMkS c F ma L S) P := by
  unfold eMkS
  rw [wp_bind]
  refine h.mono fun ds S1 ⟨hz, k⟩ => ?_
  rw [if_pos hz]
  obtain ⟨d, S3, e, rfl, k⟩ := k.ex
  rw [e]
  exact ⟨k⟩
instance : Wp (eMkS c F ma L S) P (wp (ma L S) fun ds S1 => ds.length ≤ sizeLine ∧ @wp noXP _ (F [.obj S1.length, .tup ds] (S1 ++ [.ins c [] []])) fun d S3 => d = .non ∧ P (.obj S1.length) S3) := ⟨r_mkS⟩
end
end Rf
set_option Elab.async false
set_option linter.all false
set_option maxRecDepth 100000
set_option maxHeartbeats 4000000
namespace Rf
open PySem PySem.W PySem.Calls PyProof.Rows PySem.HandSPX Builtin Builtin.ObjectAttr
def leTail : List Value := [.type "LookupError", .type "Exception", .type "BaseException", .type "object"]
/-- how the class object and its maker stand -/
def leB (K : PySem.W.Frag) (C fI : Addr) : Bool := excInitIn K C leTail "LookupError.__new__" && (excOver K C leTail && (hasDictIn K C && (okO (PySem.W.findIn K (.ref C) "__setattr__") (some (some (.builtin "object.__setattr__"))) &&
  (okO (PySem.W.findIn K (.ref C) "__init__") (some (some (.ref fI))) && (decide (PySem.W.typeIn K (.ref fI) = some (.type "function")) && PySem.W.keepIn K (.ref C))))))
structure LeAt (K : PySem.W.Frag) (C fI : Addr) : Prop where
  ini : excInitIn K C leTail "LookupError.__new__" = true
  ovr : excOver K C leTail = true
  hd : hasDictIn K C = true
  sa : PySem.W.findIn K (.ref C) "__setattr__" = some (some (.builtin "object.__setattr__"))
  iC : PySem.W.findIn K (.ref C) "__init__" = some (some (.ref fI))
  tC : PySem.W.typeIn K (.ref fI) = some (.type "function")
  kC : PySem.W.keepIn K (.ref C) = true
theorem leB_ok {K : PySem.W.Frag} {C fI : Addr} (h : leB K C fI = true) : LeAt K C fI := by
  obtain ⟨h1, h⟩ := b2 h
  obtain ⟨h2, h⟩ := b2 h
  obtain ⟨h3, h⟩ := b2 h
  obtain ⟨h4, h⟩ := b2 h
  obtain ⟨h5, h⟩ := b2 h
  obtain ⟨h6, h7⟩ := b2 h
  exact ⟨h1, h2, h3, okO_ok h4, okO_ok h5, of_decide_eq_true h6, h7⟩
section
variable {prog : Program} {w : World} {A : Around} {R : Result → Shared → Prop} {hp : Heap} {g : Array GenState} {d : Drawn} {t : Nat} {os : OsState} {K : Frag} {x C t0 : Addr} {name : Str} {tk : Tok} {v : Value}
/-- the first store into a fresh exception: its dict is made -/
theorem le_osa (X : K.In hp) (hx : hp.get? x = some (excO C t0)) (ho : excOver K C leTail = true) (hh : hasDictIn K C = true) (ht : takerIn K C name = some none)
    (hq : ∀ h' tk' dx, (∀ b o, b ≠ x → hp.get? b = some o → h'.get? b = some o) → hp.objs.size ≤ dx → dx ≠ x → h'.get? x = some { cls := .ref C, dict := some dx, data := .fields #[.ref t0, .none, .none, .none, .bool false, .none] } →
      h'.Ns1 dx (fun y => if y = name then some v else none) → R (.ok (.ret .none)) ⟨h', g, d, tk', os⟩) :
    codeAny (model prog w) A (.call (.builtin "object.__setattr__") ⟨[.ref x, .str name tk, v], []⟩) R ⟨hp, g, d, t, os⟩ := by
  refine osa_openX (od := none) PySem.F.store_LookupError X ⟨hx, rfl, rfl, trivial⟩ ho ht fun b => ?_
  obtain ⟨cd, hc, hd'⟩ := any_some hh
  have look : W.Looks (model prog w) hp (classData C) cd := W.looks_clsIn X hc
  have apart : x ≠ hp.objs.size := Nat.ne_of_lt (Heap.lt_size hx)
  obtain ⟨nm, bs, mro, ns, qn, hd, sn, sb, ab, col, del⟩ := cd
  dsimp only at hd'
  subst hd'
  unfold storeInOwnDict ownDictForStores
  repeat (first | with_reducible refine store_in_new ?_ ?_ | with_reducible refine wpAny_loadPart_at hx ?_ | with_reducible refine look.at ?_ | wp_step)
  · exact ⟨_, #[], _, (Heap.get?_update_ne _ _ _ _ apart.symm).trans (Heap.get?_push_at rfl rfl), rfl, fun e he => absurd he (by simp), fun _ => rfl⟩
  · intro h' tk' hn' same
    have hx₁ : (hp.push { cls := .type "dict", data := .dict #[] }).get? x = some (excO C t0) := Heap.get?_push_of_some _ hx
    refine hq h' tk' hp.objs.size (fun b o hb e => ?_) (Nat.le_refl _) apart.symm ?_ hn'
    · rw [same.2 b (Nat.ne_of_lt (Heap.lt_size e)), Heap.get?_update_ne _ _ _ _ hb]
      exact Heap.get?_push_of_some _ e
    · rw [same.2 x apart]
      exact Heap.get?_update_self _ hx₁ rfl
end
section
variable {prog : Program} {w : World} {A : Around} {R : Result → Shared → Prop} {s : Shared} {K : Frag} {mg : Str → Option Value} {C fI : Addr} {fd : FuncData} {p1 p2 q1 q2 q3 q4 : Pos}
theorem ml_NoPlace (T : LeAt K C fI) (noN : findIn K (.ref C) "place" = some none) (F : L2.FunD K "__init__" "NoPlace.__init__" (xiA "place" p1 p2) (xiB "place" q1 q2 q3 q4) (xiS "place") [] [] fI fd) {x t0 : Addr} {v : Value}
    (X : K.In s.heap) (hlim : s.heap.NoLimit) (hx : s.heap.get? x = some (excO C t0)) (hnx : K.lookup x = none) (hroom : A.depth < recursionLimit)
    (hq : ∀ h' tk dx, XInit "place" s.heap h' x C dx t0 v → R (.ok (.ret .none)) { s with heap := h', toks := tk }) :
    codeAny (model prog w) A (.call (.ref fI) ⟨[.ref x, v], []⟩) R s := by
  have hb := F.bindsN (ps := ["self", "place"]) (fun _ _ _ _ _ _ us hl => match us, hl with | [_, _], _ => rfl) s [.ref x, v] X rfl
  obtain ⟨oc, od, dV, kV, doc, pm, an, cdv, ct, osl, rfl, ho, hcd, _, _⟩ := F.ex
  refine Att.call_fn (binds := [("self", .ref x), ("place", v)]) X hlim ho hcd hroom hb (by first | rfl | decide | with_unfolding_all rfl) (fun s₁ IC => ?_) rfl rfl rfl
  obtain ⟨h₁, tk₁, rfl⟩ := IC.toInCall.same
  have k : ∀ b o, s.heap.get? b = some o → h₁.get? b = some o := IC.toInCall.keep
  have hn := IC.toInCall.ns
  have X₁ : K.In h₁ := X.keeps k
  have hx₁ := k _ _ hx
  show wpAny _ _ (execs _ _) _ _ _
  refine wpAny_execs_cons (plainObj_wpAny_Assign_Attribute ?_)
  refine xldC (v := v) hn (by first | rfl | with_unfolding_all rfl | kernel_rfl) (xldC (v := .ref x) hn (by first | rfl | with_unfolding_all rfl | kernel_rfl) ?_)
  refine set_plain X₁ (ox := excO C t0) (od := none) ⟨hx₁, rfl, rfl, trivial⟩ T.sa ?_
  refine le_osa X₁ hx₁ T.ovr T.hd (L2.NoAttr.taker noN) (fun h₃ tk₃ dx k₃ dn dne hx₃ hn₃ => ?_)
  show wpAny _ _ (execs _ _) _ _ _
  have z : s.heap.objs.size < h₁.objs.size := hn.lt
  exact wpAny_execs_nil (hq h₃ tk₃ dx ⟨fun b o hb e => k₃ b o hb (k b o e), hx₃, Nat.le_of_lt (Nat.lt_of_lt_of_le z dn), dne, hn₃⟩)
theorem mm_NoPlace (T : LeAt K C fI) (noN : findIn K (.ref C) "place" = some none) (F : L2.FunD K "__init__" "NoPlace.__init__" (xiA "place" p1 p2) (xiB "place" q1 q2 q3 q4) (xiS "place") [] [] fI fd) {v : Value} (X : K.In s.heap) (hlim : s.heap.NoLimit) (hroom : A.depth + 1 < recursionLimit)
    (hq : ∀ h' tk e d, XMade "place" s.heap h' e C d v → R (.ok (.ret (.ref e))) { s with heap := h', toks := tk }) :
    codeAny (model prog w) A (.call (.ref C) ⟨[v], []⟩) R s := by
  obtain ⟨nm, N, qn, bs, bm, hdct, sn, sub, ab, col, dd, k0, k1, k2, k3, k5, hC, hct⟩ := excInit_of X T.ini
  obtain ⟨hp, g, dr, tk, os⟩ := s
  have k : ∀ b o, hp.get? b = some o → ((hp.push (kdv_tup [v])).push (excO C hp.objs.size)).get? b = some o := fun b o e => Heap.get?_push_of_some _ (Heap.get?_push_of_some _ e)
  have hget : ((hp.push (kdv_tup [v])).push (excO C hp.objs.size)).get? (hp.objs.size + 1) = some (excO C hp.objs.size) := by heap_get
  have hnx : K.lookup (hp.objs.size + 1) = none := by
    cases e : K.lookup (hp.objs.size + 1) with
    | none => rfl
    | some o =>
      have z : hp.get? (hp.objs.size + 1) = some o := X _ _ e
      exact absurd (Nat.lt_of_succ_lt (Heap.lt_size z)) (Nat.lt_irrefl _)
  refine call_own PySem.F.excBase_LookupError hct hC (looks_findIn X T.iC) (fun self => bind_fn X self T.tC) (xone_size v) ?_
  refine ml_NoPlace (s := ⟨(hp.push (kdv_tup [v])).push (excO C hp.objs.size), g, dr, tk, os⟩) T noN F (X.keeps k) (hlim.keeps k) hget hnx ?_ fun h' tk' dx ⟨k', hx, dn, dne, hns⟩ => ?_
  · show A.depth + 1 < recursionLimit
    exact hroom
  · have old : ∀ b o, hp.get? b = some o → h'.get? b = some o := fun b o e => k' b o (Nat.ne_of_lt (Nat.lt_succ_of_lt (Heap.lt_size e))) (k b o e)
    have z : hp.objs.size + 1 + 1 ≤ dx := by
      first
        | (simpa only [Heap.size_push] using dn)
        | exact dn
        | (have q := dn; rw [Heap.size_push, Heap.size_push] at q; exact q)
    exact ⟨rfl, hq h' tk' (hp.objs.size + 1) dx ⟨old, Nat.le_succ _, ⟨_, _, hx, rfl, rfl, rfl, rfl⟩, Nat.le_trans (Nat.le_trans (Nat.le_succ _) (Nat.le_succ _)) z, dne, hns⟩⟩
theorem rs_NoPlace (c : ClsAt K mg "NoPlace" ["place"]) (T : LeAt K (He.ga K "NoPlace") fI) (F : L2.FunD K "__init__" "NoPlace.__init__" (xiA "place" p1 p2) (xiB "place" q1 q2 q3 q4) (xiS "place") [] [] fI fd) : RaiseIn prog w K mg "NoPlace" "place" :=
  ⟨_, c.1, T.kC, c.2.1.hs, c.2.1.ty, fun X hl hr hq => mm_NoPlace T (c.2.2 _ (List.mem_singleton.mpr rfl)) F X hl hr hq⟩
theorem ml_NoVersion (T : LeAt K C fI) (noN : findIn K (.ref C) "value" = some none) (F : L2.FunD K "__init__" "NoVersion.__init__" (xiA "value" p1 p2) (xiB "value" q1 q2 q3 q4) (xiS "value") [] [] fI fd) {x t0 : Addr} {v : Value}
    (X : K.In s.heap) (hlim : s.heap.NoLimit) (hx : s.heap.get? x = some (excO C t0)) (hnx : K.lookup x = none) (hroom : A.depth < recursionLimit)
    (hq : ∀ h' tk dx, XInit "value" s.heap h' x C dx t0 v → R (.ok (.ret .none)) { s with heap := h', toks := tk }) :
    codeAny (model prog w) A (.call (.ref fI) ⟨[.ref x, v], []⟩) R s := by
  have hb := F.bindsN (ps := ["self", "value"]) (fun _ _ _ _ _ _ us hl => match us, hl with | [_, _], _ => rfl) s [.ref x, v] X rfl
  obtain ⟨oc, od, dV, kV, doc, pm, an, cdv, ct, osl, rfl, ho, hcd, _, _⟩ := F.ex
  refine Att.call_fn (binds := [("self", .ref x), ("value", v)]) X hlim ho hcd hroom hb (by first | rfl | decide | with_unfolding_all rfl) (fun s₁ IC => ?_) rfl rfl rfl
  obtain ⟨h₁, tk₁, rfl⟩ := IC.toInCall.same
  have k : ∀ b o, s.heap.get? b = some o → h₁.get? b = some o := IC.toInCall.keep
  have hn := IC.toInCall.ns
  have X₁ : K.In h₁ := X.keeps k
  have hx₁ := k _ _ hx
  show wpAny _ _ (execs _ _) _ _ _
  refine wpAny_execs_cons (plainObj_wpAny_Assign_Attribute ?_)
  refine xldC (v := v) hn (by first | rfl | with_unfolding_all rfl | kernel_rfl) (xldC (v := .ref x) hn (by first | rfl | with_unfolding_all rfl | kernel_rfl) ?_)
  refine set_plain X₁ (ox := excO C t0) (od := none) ⟨hx₁, rfl, rfl, trivial⟩ T.sa ?_
  refine le_osa X₁ hx₁ T.ovr T.hd (L2.NoAttr.taker noN) (fun h₃ tk₃ dx k₃ dn dne hx₃ hn₃ => ?_)
  show wpAny _ _ (execs _ _) _ _ _
  have z : s.heap.objs.size < h₁.objs.size := hn.lt
  exact wpAny_execs_nil (hq h₃ tk₃ dx ⟨fun b o hb e => k₃ b o hb (k b o e), hx₃, Nat.le_of_lt (Nat.lt_of_lt_of_le z dn), dne, hn₃⟩)
theorem mm_NoVersion (T : LeAt K C fI) (noN : findIn K (.ref C) "value" = some none) (F : L2.FunD K "__init__" "NoVersion.__init__" (xiA "value" p1 p2) (xiB "value" q1 q2 q3 q4) (xiS "value") [] [] fI fd) {v : Value} (X : K.In s.heap) (hlim : s.heap.NoLimit) (hroom : A.depth + 1 < recursionLimit)
    (hq : ∀ h' tk e d, XMade "value" s.heap h' e C d v → R (.ok (.ret (.ref e))) { s with heap := h', toks := tk }) :
    codeAny (model prog w) A (.call (.ref C) ⟨[v], []⟩) R s := by
  obtain ⟨nm, N, qn, bs, bm, hdct, sn, sub, ab, col, dd, k0, k1, k2, k3, k5, hC, hct⟩ := excInit_of X T.ini
  obtain ⟨hp, g, dr, tk, os⟩ := s
  have k : ∀ b o, hp.get? b = some o → ((hp.push (kdv_tup [v])).push (excO C hp.objs.size)).get? b = some o := fun b o e => Heap.get?_push_of_some _ (Heap.get?_push_of_some _ e)
  have hget : ((hp.push (kdv_tup [v])).push (excO C hp.objs.size)).get? (hp.objs.size + 1) = some (excO C hp.objs.size) := by heap_get
  have hnx : K.lookup (hp.objs.size + 1) = none := by
    cases e : K.lookup (hp.objs.size + 1) with
    | none => rfl
    | some o =>
      have z : hp.get? (hp.objs.size + 1) = some o := X _ _ e
      exact absurd (Nat.lt_of_succ_lt (Heap.lt_size z)) (Nat.lt_irrefl _)
  refine call_own PySem.F.excBase_LookupError hct hC (looks_findIn X T.iC) (fun self => bind_fn X self T.tC) (xone_size v) ?_
  refine ml_NoVersion (s := ⟨(hp.push (kdv_tup [v])).push (excO C hp.objs.size), g, dr, tk, os⟩) T noN F (X.keeps k) (hlim.keeps k) hget hnx ?_ fun h' tk' dx ⟨k', hx, dn, dne, hns⟩ => ?_
  · show A.depth + 1 < recursionLimit
    exact hroom
  · have old : ∀ b o, hp.get? b = some o → h'.get? b = some o := fun b o e => k' b o (Nat.ne_of_lt (Nat.lt_succ_of_lt (Heap.lt_size e))) (k b o e)
    have z : hp.objs.size + 1 + 1 ≤ dx := by
      first
        | (simpa only [Heap.size_push] using dn)
        | exact dn
        | (have q := dn; rw [Heap.size_push, Heap.size_push] at q; exact q)
    exact ⟨rfl, hq h' tk' (hp.objs.size + 1) dx ⟨old, Nat.le_succ _, ⟨_, _, hx, rfl, rfl, rfl, rfl⟩, Nat.le_trans (Nat.le_trans (Nat.le_succ _) (Nat.le_succ _)) z, dne, hns⟩⟩
theorem rs_NoVersion (c : ClsAt K mg "NoVersion" ["value"]) (T : LeAt K (He.ga K "NoVersion") fI) (F : L2.FunD K "__init__" "NoVersion.__init__" (xiA "value" p1 p2) (xiB "value" q1 q2 q3 q4) (xiS "value") [] [] fI fd) : RaiseIn prog w K mg "NoVersion" "value" :=
  ⟨_, c.1, T.kC, c.2.1.hs, c.2.1.ty, fun X hl hr hq => mm_NoVersion T (c.2.2 _ (List.mem_singleton.mpr rfl)) F X hl hr hq⟩
end
end Rf
set_option Elab.async false
set_option linter.all false
set_option maxRecDepth 100000
set_option maxHeartbeats 4000000
namespace Rf
open PySem L2 TL
/-- isinstance(the error, (C1, C2)) -/
def eIs2 (t1 t2 : IsT) (i : Nat) : EM := fun L S => match L[i]? with
  | some (.exc x) => if x.fs.isEmpty = true then .no else match t1 x.cls, t2 x.cls with
    | some b1, some b2 => .ok (.bl (b1 || b2)) S
    | _, _ => .no
  | _ => .no
section
variable {t1 t2 : IsT} {i : Nat} {L : Ls} {S : Sto} {P : D → Sto → Prop} {xp : ExP}
theorem r_is2 (h : ∃ x, L[i]? = some (.exc x) ∧ x.fs.isEmpty = false ∧ ∃ b1, t1 x.cls = some b1 ∧ ∃ b2, t2 x.cls = some b2 ∧ P (.bl (b1 || b2)) S) : wp (eIs2 t1 t2 i L S) P := by
  obtain ⟨x, e1, e2, b1, e3, b2, e4, k⟩ := h
  unfold eIs2
  rw [e1]
  simp only [e2, Bool.false_eq_true, if_false, e3, e4]
  exact ⟨k⟩
instance : Wp (eIs2 t1 t2 i L S) P (∃ x, L[i]? = some (.exc x) ∧ x.fs.isEmpty = false ∧ ∃ b1, t1 x.cls = some b1 ∧ ∃ b2, t2 x.cls = some b2 ∧ P (.bl (b1 || b2)) S) := ⟨r_is2⟩
end
end Rf
set_option Elab.async false
set_option linter.all false
set_option maxRecDepth 100000
set_option maxHeartbeats 1000000
namespace Rf
open PySem L2 TL
end Rf
set_option Elab.async false
set_option linter.all false
set_option maxRecDepth 100000
set_option maxHeartbeats 1000000
namespace Rf
open PySem L2 TL
section
variable {X : Cx} {W : WX} {e : Expr} {m : EM} {pos pos' : Pos}
def sExtT (i : Nat) (m : EM) : SM := fun L S => match L[i]? with
  | some (.o (.lst ds)) => (m L S).st L fun d S1 => match d with
    | .tup es => if ds.length + es.length ≤ sizeLine then .ok .nx (L.set i (.o (.lst (ds ++ es)))) S1 else .no
    | _ => .no
  | _ => .no
variable {L : Ls} {S : Sto} {PS : Fl → Ls → Sto → Prop} {i : Nat}
instance : Ws (sExtT i m L S) PS (∃ ds, L[i]? = some (.o (.lst ds)) ∧ wp (m L S) fun d S1 => ∃ es, d = .tup es ∧ ds.length + es.length ≤ sizeLine ∧ PS .nx (L.set i (.o (.lst (ds ++ es)))) S1) := ⟨fun ⟨ds, e, h⟩ => by
  unfold sExtT
  rw [e]
  dsimp only
  rw [wps_st]
  refine h.mono fun d S1 ⟨es, e, hz, h⟩ => ?_
  subst e
  dsimp only
  rw [if_pos hz]
  exact ⟨h⟩⟩
end
end Rf
set_option Elab.async false
set_option linter.all false
set_option maxRecDepth 100000
set_option maxHeartbeats 1000000
namespace Rf
open PySem L2 TL
end Rf
set_option Elab.async false
set_option linter.all false
set_option maxRecDepth 100000
set_option maxHeartbeats 4000000
namespace Rf
open PySem L2 TL
/-- an exception of the class at C has been made at e, its own dict at d with the fields ns -/
structure ErrMade (ns : List Str) (h h' : Heap) (e C : Addr) (d : Option Addr) (us : List Value) : Prop where
  keep : ∀ b o, h.get? b = some o → h'.get? b = some o
  new : h.get? e = none
  obj : ∃ (ox : Obj) (fv : Array Value), h'.get? e = some ox ∧ ox.cls = .ref C ∧ ox.dict = d ∧ ox.data = .fields fv
  own : (d = none ∧ ns = []) ∨ ∃ dd, d = some dd ∧ h.objs.size ≤ dd ∧ dd ≠ e ∧ h'.Ns1 dd (fun y => (ns.zip us).lookup y)
/-- the name c stands for a class whose call with as many values as there are names in ns gives such a one -/
def ErrIn (P : Program) (w : World) (K : PySem.W.Frag) (mg : Str → Option Value) (c : Str) (ns : List Str) : Prop := ∃ C, mg c = some (.ref C) ∧ PySem.W.keepIn K (.ref C) = true ∧
  ∀ {A : Around} {Q E : Value → Shared → Prop} {s : Shared} {us : List Value}, us.length = ns.length → K.In s.heap → s.heap.NoLimit → A.depth + 1 < recursionLimit →
    (∀ h' tk e d, ErrMade ns s.heap h' e C d us → Q (.ref e) { s with heap := h', toks := tk }) → wpAny (model P w) A (call (.ref C) us) Q E s
section
variable {P : Program} {w : World} {K : PySem.W.Frag} {mg : Str → Option Value} {c f : Str} {C : Addr}
theorem get_none {h : Heap} {a : Addr} (x : h.objs.size ≤ a) : h.get? a = none := by
  cases e : h.get? a with
  | none => rfl
  | some o => exact absurd (Heap.lt_size e) (Nat.not_lt.mpr x)
theorem zip_one (f : Str) (v : Value) : (fun y => ([f].zip [v]).lookup y) = fun y => if y = f then some v else none := by
  funext y
  show List.lookup y [(f, v)] = _
  by_cases h : y = f
  · subst h
    simp [List.lookup]
  · have q : (y == f) = false := by simpa using h
    rw [List.lookup_cons, q, if_neg h]
    rfl
theorem ErrIn.one (T : RaiseIn P w K mg c f) : ErrIn P w K mg c [f] := by
  obtain ⟨C, T⟩ := T
  refine ⟨C, T.gC, T.kC, fun {A Q E s us} hl hK hn hr hq => ?_⟩
  match us, hl with
  | [v], _ =>
    refine wpAny_call (T.made hK hn hr fun h' tk e d M => ?_)
    obtain ⟨oe, fv, h1, h2, h3, h4, _⟩ := M.obj
    refine hq h' tk e (some d) ⟨M.keep, get_none M.new, ⟨oe, fv, h1, h2, h3, h4⟩, .inr ⟨d, rfl, M.dbig, M.dne, ?_⟩⟩
    rw [zip_one]
    exact M.ns
theorem ErrIn.zero {B newId initId : String} {bmB : List Value} (F : ExcBaseFacts B newId initId bmB) (q : PySem.W.excIn K C bmB newId = true) (gC : mg c = some (.ref C)) (kC : PySem.W.keepIn K (.ref C) = true) : ErrIn P w K mg c [] := by
  refine ⟨C, gC, kC, fun {A Q E s us} hl hK hn hr hq => ?_⟩
  match us, hl with
  | [], _ =>
    obtain ⟨hp, g, dr, tk, os⟩ := s
    obtain ⟨bm, N, nm, qn, bs, hdct, sn, sub, ab, col, dd, k0, k1, k2, k3, k5, mN, hC, hN, hni, T⟩ := exc_obj hK q
    refine wpAny_call_exc_subT F T hC hN hni (fun h' e hm => ?_) (by show 0 ≤ sizeLine; exact Nat.zero_le _)
    obtain ⟨t, he, _, _⟩ := hm.there
    exact hq h' tk e none ⟨hm.keeps, hm.new, ⟨_, _, he, rfl, rfl, rfl⟩, .inl ⟨rfl, rfl⟩⟩
end
theorem relO_zip : ∀ {vs : List V} {us : List Value} (ns : List Str) (y : Str), Vals vs us → RelO ((ns.zip vs).lookup y) ((ns.zip us).lookup y)
  | _, _, [], _, _ => trivial
  | [], [], _ :: _, _, _ => trivial
  | v :: vs, u :: us, n :: ns, y, .cons r rr => by
    rw [List.zip_cons_cons, List.zip_cons_cons, List.lookup_cons, List.lookup_cons]
    cases y == n with
    | true => exact r
    | false => exact relO_zip ns y rr
section
variable {X : Cx} {C : Addr} {c f : Str} {ns : List Str} {W : WX} {e : Expr} {es : List Expr} {p pos : Pos} {k : Nat} {ta : TA} {ma : Ls → Sto → R (List D)}
/-- what is known behind the making -/
def MkV (C : Addr) (ns : List Str) (vs : List V) (H : Hp) (Q : VK) : Prop := vs.length = ns.length ∧ ∀ a, H a = none → (ns = [] → Q (.ref a) (upd H a (ErrO a C none))) ∧
  ∀ d, H d = none → d ≠ a → Q (.ref a) (upd (upd H d (.xd (ns.zip vs))) a (ErrO a C (some d)))
theorem run_err {pins : List (Addr × Obj)} {σ : L2.St} {H : Hp} {s : Shared} {Q : VK} {us : List Value} {vs : List V}
    (T : ∀ {A : Around} {Q E : Value → Shared → Prop} {s : Shared} {us : List Value}, us.length = ns.length → X.K.In s.heap → s.heap.NoLimit → A.depth + 1 < recursionLimit →
      (∀ h' tk e d, ErrMade ns s.heap h' e C d us → Q (.ref e) { s with heap := h', toks := tk }) → wpAny (model X.prog X.w) A (call (.ref C) us) Q E s)
    (hr : Room (k + 1) X.A) (I : Inv X pins σ H s) (r : Vals vs us) (h : MkV C ns vs H Q) : wpAny (model X.prog X.w) X.A (call (.ref C) us) (EP X pins σ Q) X.xe s := by
  have hlim := I.nolimit
  obtain ⟨hp, gn, dr, tk, os⟩ := s
  refine T (r.length.symm.trans h.1) I.kIn hlim (by have := hr.dp; omega) fun h' tk' e d M => ?_
  obtain ⟨ox, fv, hox, hc, hd, hdat⟩ := M.obj
  have he : H e = none := I.hok.gone M.new
  have ob : ∀ H', ObjOk X.prog X.w H' h' e (ErrO e C d) := fun H' => ⟨⟨ox, fv, hox, hc, hd, hdat⟩, ⟨ox, hox⟩, fun _ _ ⟨o, v, q, r⟩ k => ⟨o, v, k _ q, r⟩⟩
  rcases M.own with ⟨ed, en⟩ | ⟨dd, ed, hdd, hne, hns⟩
  · subst ed
    have J := I.laidN (t' := tk') M.keep M.new he (ob _)
    exact ⟨.ref e, _, J, rfl, (h.2 e he).1 en⟩
  · subst ed
    obtain ⟨G', g1, g2⟩ := restrict h' fun b => decide (b ≠ e)
    have gk : ∀ b, b ≠ e → G'.get? b = h'.get? b := fun b hb => g1 b (decide_eq_true hb)
    have ge : G'.get? e = none := g2 e (by simp)
    have old : ∀ b o, hp.get? b = some o → G'.get? b = some o := fun b o q => (gk b (fun z => by rw [z] at q; exact nomatch q.symm.trans M.new)).trans (M.keep b o q)
    have od : ObjOk X.prog X.w (upd H dd (.xd (ns.zip vs))) G' dd (.xd (ns.zip vs)) := ⟨_, hns.at (fun o q => (gk dd hne).trans q), fun y => relO_zip ns y r⟩
    have J : Inv X pins σ (upd H dd (.xd (ns.zip vs))) ⟨G', gn, dr, tk', os⟩ := I.laid (t' := tk') old hdd od
    have hn : upd H dd (.xd (ns.zip vs)) e = none := by rw [upd_ne (Ne.symm hne)]; exact he
    have J2 : Inv X pins σ (upd (upd H dd (.xd (ns.zip vs))) e (ErrO e C (some dd))) ⟨h', gn, dr, tk', os⟩ := J.laidN (t' := tk') (fun b u q => by
      by_cases hb : b = e
      · have q' : G'.get? b = some u := q
        rw [hb, ge] at q'; cases q'
      · exact (gk b hb).symm.trans q) ge hn (ob _)
    exact ⟨.ref e, _, J2, rfl, (h.2 e he).2 dd (I.hok.fresh hdd) hne⟩
def eErr (c : Str) (ns : List Str) (ma : Ls → Sto → R (List D)) : EM := fun L S => (ma L S).bind fun ds S1 => if ds.length = ns.length then .ok (.ins c ns ds) S1 else .no
theorem mkV_of {g : G} {S : Sto} {ds : List D} {vs : List V} {H : Hp} {Q : VK} {Wf : Value → Option Addr → Hp → Prop} (hm : X.mg c = some (.ref C)) (w : WF (kx X) H g S) (r : RepL (kx X) H g ds vs)
    (p : Post (kx X) (Rep (kx X)) H g Wf (if ds.length = ns.length then .ok (.ins c ns ds) S else .no) Q) : MkV C ns vs H Q := by
  by_cases hl : ds.length = ns.length
  · rw [if_pos hl] at p
    refine ⟨r.length.trans hl, fun a ha => ⟨fun en => ?_, fun d hd hne => ?_⟩⟩
    · refine p (.ref a) _ (g.frz a) (Ext.newFrz ha) (w.newFrz ha) ⟨a, C, none, vs, rfl, .inl rfl, hm, upd_same, RepL.mono (Ext.newFrz ha).toPExt _ _ r, .inl ⟨rfl, en⟩⟩
    · have ha' : upd H d (.xd (ns.zip vs)) a = none := by rw [upd_ne (Ne.symm hne)]; exact ha
      refine p (.ref a) _ ((g.frz d).frz a) ((Ext.newFrz hd).trans (Ext.newFrz ha')) ((w.newFrz hd).newFrz ha') ⟨a, C, some d, vs, rfl, .inl rfl, hm, upd_same, RepL.mono ((Ext.newFrz hd).trans (Ext.newFrz ha')).toPExt _ _ r, .inr ⟨d, rfl, .inr (.inl rfl), ?_⟩⟩
      rw [upd_ne hne]
      exact upd_same
  · rw [if_neg hl] at p
    exact p.elim
theorem se_err (T : ErrIn X.prog X.w X.K X.mg c ns) (hr : Room (k + 1) X.A) (hg : Gl X c) (ha : SAE X W (e :: es) ma) (hs : (e :: es).all noStar = true) (hdb : (c == ("__debug__" : Str)) = false) :
    SE X W (.Call (.Name c p) (e :: es) [] pos) (eErr c ns ma) := by
  obtain ⟨C, hm, hk, T⟩ := T
  have hs' : noStar e = true ∧ es.all noStar = true := by rwa [List.all_cons, Bool.and_eq_true] at hs
  refine ⟨fun pins s σ H Q I ⟨L, S, g, l, w, p⟩ => wpAny_Call_Name_kw (ld_glob I hg hm (PySem.W.callWith_K (h₀ := X.base) I.ok.mod.kin hk (thn (ha.run pos pins s σ H (fun vs H1 => MkV C ns vs H1 Q) I ⟨L, S, g, l, w, Post.bind p fun ds S1 vs H1 g1 e1 w1 r1 p1 => mkV_of hm w1 r1 p1⟩) fun us s1 ⟨vs, H1, I1, r, q⟩ => ⟨I1.kIn, run_err T hr I1 r q⟩) (star_cons hs'.1) (star_any hs'.2)) hdb)⟩
theorem se_err0 (T : ErrIn X.prog X.w X.K X.mg c ns) (hr : Room (k + 1) X.A) (hg : Gl X c) (hdb : (c == ("__debug__" : Str)) = false) : SE X W (.Call (.Name c p) [] [] pos) (eErr c ns aNil) := by
  obtain ⟨C, hm, hk, T⟩ := T
  refine ⟨fun pins s σ H Q I ⟨L, S, g, l, w, p⟩ => ?_⟩
  refine wpAny_Call_Name_kw (ld_glob I hg hm ?_ hdb)
  exact PySem.W.callWith_K0 I.kIn hk (run_err (us := []) T hr I .nil (mkV_of (ds := []) hm w rfl p))
end
section
variable {X : Cx} {W : WX} {cv : Value} {t : IsT} {cs : Str → Bool} {c f : Str} {e e2 : Expr} {m : EM} {p p2 pos : Pos} {v : V}
def rIsD (K : PySem.W.Frag) (cv : Value) : List V → Hp → VK → Prop := fun xs H Q => ∃ (a C : Addr) (d : Option Addr) (c : V) (b : Bool), xs = [.ref a, c] ∧ (∀ u, RelV c u → u = cv) ∧ ExcAt K C ∧ PySem.W.kitOne K (.ref C) cv = some b ∧
  H a = some (ErrO a C d) ∧ (∀ dd, d = some dd → ∃ fs, H dd = some (.xd fs)) ∧ Q (.bl b) H
theorem errAt {pins : List (Addr × Obj)} {σ : L2.St} {H : Hp} {s : Shared} {a C : Addr} {d : Option Addr} (I : Inv X pins σ H s) (ha : H a = some (ErrO a C d)) (hd : ∀ dd, d = some dd → ∃ fs, H dd = some (.xd fs)) :
    ∃ ox od, PySem.W.InstAt s.heap a ox C od ∧ ∀ dd, d = some dd → ∃ o, od = some o ∧ s.heap.get? dd = some o := by
  obtain ⟨ox, fv, h1, h2, h3, h4⟩ := (show ObjOk X.prog X.w H s.heap a (ErrO a C d) from I.hok a _ ha).1
  have hn : PySem.W.notCls ox = true := by unfold PySem.W.notCls; rw [h4] <;> rfl
  cases d with
  | none => exact ⟨ox, none, ⟨h1, h2, hn, by rw [h3]; trivial⟩, fun dd z => nomatch z⟩
  | some dd =>
    obtain ⟨fs, hx⟩ := hd dd rfl
    obtain ⟨o, ho⟩ := objOk_get (I.hok dd _ hx)
    exact ⟨ox, some o, ⟨h1, h2, hn, by rw [h3]; exact ho⟩, fun d2 z => by cases z; exact ⟨o, rfl, ho⟩⟩
theorem call_isD : CallR X (.builtin "isinstance") (rIsD X.K cv) := by
  intro pins s σ H xs us Q I r h
  obtain ⟨a, C, d, c, b, rfl, hcv, hC, hk, ha, hd, q⟩ := h
  cases r with
  | cons rx rr =>
    cases rr with
    | cons rt rr =>
      cases rr
      cases rx
      have ec := hcv _ rt
      subst ec
      obtain ⟨ox, od, J, _⟩ := errAt I ha hd
      exact PySem.W.kia_one (PySem.W.xkit hC.toExcC) I.kIn J hk (fun z => nomatch z) fun tk => ⟨.bl b, H, I.kept (t' := tk) fun _ _ z => z, rfl, q⟩
/-- isinstance(e, C), e an exception -/
def eIsD (t : IsT) (m : EM) : EM := fun L S => (m L S).bind fun d S1 => match d with
  | .ins c _ _ => match t c with
    | some b => .ok (.bl b) S1
    | none => .no
  | _ => .no
theorem se_isD (hT : IsI X.K X.mg cv t) (hg : Gl X "isinstance") (hm : X.mg "isinstance" = none) (ho : SE X W e m) (he : PE X e2 (tC v)) (hcv : ∀ u, RelV v u → u = cv) (hs1 : noStar e = true) (hs : noStar e2 = true) :
    SE X W (.Call (.Name "isinstance" p2) [e, e2] [] pos) (eIsD t m) := by
  refine PE.imp (pe_callB (call_isD (cv := cv)) hg hm (by decide) (pa_cons ho (pa_cons he pa_nil (star_cons hs)) (star_cons hs1)) (by decide) (by decide) (star_cons hs1) (by rw [star_cons hs]; rfl)) fun σ H Q ⟨L, S, g, l, w, q⟩ => ?_
  refine ⟨L, S, g, l, w, Post.bind q fun d S1 u H1 g1 e1 w1 r1 p1 => ?_⟩
  cases d with
  | ins c ns ds =>
    obtain ⟨a, C, d, vs, rfl, hF, hC, ha, hL, hd⟩ := r1
    cases hb : t c with
    | none => simp only [hb] at p1; exact p1.elim
    | some b =>
      simp only [hb] at p1
      obtain ⟨C2, k1, k2, k3⟩ := hT _ _ hb
      have hC' : X.mg c = some (.ref C) := hC
      rw [hC'] at k1
      cases k1
      refine ⟨a, C, d, v, b, rfl, hcv, k2, k3, ha, fun dd z => ?_, Post.ret p1 w1 rfl⟩
      rcases hd with ⟨z2, _⟩ | ⟨d2, z2, _, hx⟩
      · rw [z2] at z; cases z
      · rw [z2] at z; cases z
        exact ⟨_, hx⟩
  | _ => exact p1.elim
def eXfD (cs : Str → Bool) (f : Str) (m : EM) : EM := fun L S => (m L S).bind fun d S1 => match d with
  | .ins c ns ds => if cs c = true then lift (fGet f ns ds) S1 else .no
  | _ => .no
def tXfD (K : PySem.W.Frag) (f : Str) (te : TE) : TE := fun σ H Q => te σ H fun x H1 => ∃ (a C dd : Addr) (fs : List (Str × V)) (v : V), x = .ref a ∧ XfC K C ∧ PySem.W.findIn K (.ref C) f = some none ∧ H1 a = some (ErrO a C (some dd)) ∧
  H1 dd = some (.xd fs) ∧ fs.lookup f = some v ∧ Q v H1
theorem pe_xfD {te : TE} (he : PE X e te) (hb : attributeBase e f X.env (eval e X.env) = eval e X.env) : PE X (.Attribute e f pos) (tXfD X.K f te) := by
  refine ⟨fun pins s σ H Q I h => attr_of hb (thn (he.run pins s σ H _ I h) fun u s1 hh => ?_)⟩
  obtain ⟨x, H1, I1, rx, a, C, dd, fs, v, ex, T, hno, ha, hdd, hl, q⟩ := hh
  subst ex
  obtain rfl : u = Value.ref a := rx
  obtain ⟨ox, od, J, hod⟩ := errAt I1 ha fun d2 z => by cases z; exact ⟨fs, hdd⟩
  obtain ⟨mA, hns, hr⟩ := (show ObjOk X.prog X.w H1 s1.heap dd (.xd fs) from I1.hok dd _ hdd)
  obtain ⟨o2, ho2, hlk⟩ := lookIn_ns hns
  obtain ⟨o, eo, ho⟩ := hod dd rfl
  have e2 : o = o2 := Option.some.inj (ho.symm.trans ho2)
  subst e2 eo
  obtain ⟨u, hu, ru⟩ := RelO.some_of (v := v) (o := mA f) (by rw [← hl]; exact hr f)
  exact PySem.HandSPX.exc_get I1.kIn J T.ga T.gg T.exC (PySem.W.findObj_own T.hdC hno rfl (by rw [hlk, hu])) (handed_of ru) ⟨v, H1, I1.tok _, ru, q⟩
theorem se_xfD (hT : XfK X.K X.mg cs f) (ho : SE X W e m) (hb : attributeBase e f X.env (eval e X.env) = eval e X.env) : SE X W (.Attribute e f pos) (eXfD cs f m) :=
  PE.imp (pe_xfD ho hb) fun σ H Q ⟨L, S, g, l, w, q⟩ => ⟨L, S, g, l, w, Post.bind q fun d S1 u H1 g1 e1 w1 r1 p1 => by
    cases d with
    | ins c ns ds =>
      obtain ⟨a, C, d, vs, rfl, hF, hC, ha, hL, hd⟩ := r1
      by_cases hc : cs c = true
      · simp only [hc, if_true] at p1
        cases z : fGet f ns ds with
        | none => rw [z] at p1; exact p1.elim
        | some x =>
          rw [z] at p1
          obtain ⟨C2, k1, k2, k3⟩ := hT _ hc
          have hC' : X.mg c = some (.ref C) := hC
          rw [hC'] at k1
          cases k1
          obtain ⟨v, hv, rv⟩ := fGet_rep hL z
          rcases hd with ⟨_, en⟩ | ⟨dd, z2, _, hx⟩
          · rw [en] at z; cases z
          · subst z2
            exact ⟨a, C, dd, _, v, rfl, k2.xf, k3, ha, hx, by rw [fGet_zip]; exact hv, Post.ret p1 w1 rv⟩
      · simp only [hc, if_false] at p1
        exact p1.elim
    | _ => exact p1.elim⟩
end
section
variable {ma : Ls → Sto → R (List D)} {m : EM} {t : IsT} {cs : Str → Bool} {c f : Str} {ns : List Str} {L : Ls} {S : Sto} {P : D → Sto → Prop} {xp : ExP}
theorem r_err (h : wp (ma L S) fun ds S1 => ds.length = ns.length ∧ P (.ins c ns ds) S1) : wp (eErr c ns ma L S) P := by
  unfold eErr
  rw [wp_bind]
  refine h.mono fun ds S1 ⟨e1, k⟩ => ?_
  rw [if_pos e1]
  exact ⟨k⟩
theorem r_isD (h : wp (m L S) fun d S1 => ∃ c ns ds, d = .ins c ns ds ∧ ∃ b, t c = some b ∧ P (.bl b) S1) : wp (eIsD t m L S) P := by
  unfold eIsD
  rw [wp_bind]
  refine h.mono fun d S1 ⟨c, ns, ds, e1, b, e2, k⟩ => ?_
  subst e1
  dsimp only
  rw [e2]
  exact ⟨k⟩
theorem r_xfD (h : wp (m L S) fun d S1 => ∃ c ns ds, d = .ins c ns ds ∧ cs c = true ∧ ∃ x, fGet f ns ds = some x ∧ P x S1) : wp (eXfD cs f m L S) P := by
  unfold eXfD
  rw [wp_bind]
  refine h.mono fun d S1 ⟨c, ns, ds, e1, e2, x, e3, k⟩ => ?_
  subst e1
  dsimp only
  rw [if_pos e2, e3]
  exact ⟨k⟩
instance : Wp (eErr c ns ma L S) P (wp (ma L S) fun ds S1 => ds.length = ns.length ∧ P (.ins c ns ds) S1) := ⟨r_err⟩
instance : Wp (eIsD t m L S) P (wp (m L S) fun d S1 => ∃ c ns ds, d = .ins c ns ds ∧ ∃ b, t c = some b ∧ P (.bl b) S1) := ⟨r_isD⟩
instance : Wp (eXfD cs f m L S) P (wp (m L S) fun d S1 => ∃ c ns ds, d = .ins c ns ds ∧ cs c = true ∧ ∃ x, fGet f ns ds = some x ∧ P x S1) := ⟨r_xfD⟩
end
end Rf
set_option Elab.async false
set_option linter.all false
set_option maxRecDepth 100000
set_option maxHeartbeats 4000000
namespace Rf
open PySem PySem.W PySem.Calls PyProof.Rows PySem.HandSPX
def xjA (f g : Str) (p1 p2 p3 : Pos) : Arguments := { posonlyargs := [], args := [{ arg := "self", annotation := none, pos := p1 }, { arg := f, annotation := none, pos := p2 }, { arg := g, annotation := none, pos := p3 }], vararg := none, kwonlyargs := [], kw_defaults := [], kwarg := none, defaults := [] }
def xjB (f g : Str) (q1 q2 q3 q4 q5 q6 q7 q8 : Pos) : List Stmt := [.Assign [.Attribute (.Name "self" q1) f q2] (.Name f q3) q4, .Assign [.Attribute (.Name "self" q5) g q6] (.Name g q7) q8]
def xjS (f g : Str) : Scope := { kind := .function, names := [(PySem.Str.ofString "self", .local), (f, .local), (g, .local)], isGenerator := false, isCoroutine := false, more := [] }
theorem xtwo_size (v u : Value) : [v, u].length ≤ sizeLine := by
  rw [sizeLine_eq]
  exact (by decide : 2 ≤ 16777216)
/-- what the maker leaves of a fresh exception at x -/
structure XJnit (m : Str → Option Value) (h h' : Heap) (x C dx t1 : Addr) : Prop where
  keep : ∀ b o, b ≠ x → h.get? b = some o → h'.get? b = some o
  obj : h'.get? x = some { cls := .ref C, dict := some dx, data := .fields #[.ref t1, .none, .none, .none, .bool false, .none] }
  dbig : h.objs.size ≤ dx
  dne : dx ≠ x
  ns : h'.Ns1 dx m
section
variable {prog : Program} {w : World} {A : Around} {R : Result → Shared → Prop} {s : Shared} {K : Frag} {mg : Str → Option Value} {C fI : Addr} {fd : FuncData} {p1 p2 p3 q1 q2 q3 q4 q5 q6 q7 q8 : Pos}
theorem mi_Unsure (T : RsAt K C fI) (no1 : findIn K (.ref C) "inputs" = some none) (no2 : findIn K (.ref C) "picks" = some none) (F : L2.FunD K "__init__" "Unsure.__init__" (xjA "inputs" "picks" p1 p2 p3) (xjB "inputs" "picks" q1 q2 q3 q4 q5 q6 q7 q8) (xjS "inputs" "picks") [] [] fI fd) {x t0 : Addr} {v u : Value}
    (X : K.In s.heap) (hlim : s.heap.NoLimit) (hx : s.heap.get? x = some (excO C t0)) (hnx : K.lookup x = none) (hroom : A.depth < recursionLimit)
    (hq : ∀ h' tk dx, XJnit (fun y => if y = "picks" then some u else if y = "inputs" then some v else none) s.heap h' x C dx t0 → R (.ok (.ret .none)) { s with heap := h', toks := tk }) :
    codeAny (model prog w) A (.call (.ref fI) ⟨[.ref x, v, u], []⟩) R s := by
  have hb := F.bindsN (ps := ["self", "inputs", "picks"]) (fun _ _ _ _ _ _ us hl => match us, hl with | [_, _, _], _ => rfl) s [.ref x, v, u] X rfl
  obtain ⟨oc, od, dV, kV, doc, pm, an, cdv, ct, osl, rfl, ho, hcd, _, _⟩ := F.ex
  obtain ⟨nm, q, N, bs, bm, sn, sub, ab, col, dd, k0, k1, k2, k3, k5, hC, hbm⟩ := T.cls
  have hcl : clsIn K C = some { name := nm, bases := bs, mro := .ref C :: bm, ns := N, qualname := q, hasDict := true, slotNames := sn, subclasses := sub, abstract := ab, collection := col, hasDel := false } := by unfold clsIn; rw [hC] <;> rfl
  refine Att.call_fn (binds := [("self", .ref x), ("inputs", v), ("picks", u)]) X hlim ho hcd hroom hb (by first | rfl | decide | with_unfolding_all rfl) (fun s₁ IC => ?_) rfl rfl rfl
  obtain ⟨h₁, tk₁, rfl⟩ := IC.toInCall.same
  have k : ∀ b o, s.heap.get? b = some o → h₁.get? b = some o := IC.toInCall.keep
  have hn := IC.toInCall.ns
  have X₁ : K.In h₁ := X.keeps k
  have hx₁ := k _ _ hx
  have zL : s.heap.objs.size < h₁.objs.size := hn.lt
  have xL : x < s.heap.objs.size := Heap.lt_size hx
  refine wpAny_execs_cons (plainObj_wpAny_Assign_Attribute ?_)
  refine xldC (v := v) hn (by first | rfl | with_unfolding_all rfl | kernel_rfl) (xldC (v := .ref x) hn (by first | rfl | with_unfolding_all rfl | kernel_rfl) ?_)
  refine set_plain X₁ (ox := excO C t0) (od := none) ⟨hx₁, rfl, rfl, trivial⟩ T.sa ?_
  refine exc_osa X₁ hx₁ hcl (show refsVE (.ref C :: bm) = true from hbm) rfl no1 (fun h₃ tk₃ dx k₃ dn dne hx₃ hn₃ => ?_)
  have X₃ : K.In h₃ := fun b o e => k₃ b o (fun z => by rw [z, hnx] at e; cases e) (X₁ b o e)
  have hn' : h₃.Ns s.heap.objs.size _ := hn.at fun o e => k₃ _ o (Nat.ne_of_gt xL) e
  refine wpAny_execs_cons (plainObj_wpAny_Assign_Attribute ?_)
  refine xldC (v := u) hn' (by first | rfl | with_unfolding_all rfl | kernel_rfl) (xldC (v := .ref x) hn' (by first | rfl | with_unfolding_all rfl | kernel_rfl) ?_)
  obtain ⟨oD, hoD, hlD⟩ := L2.lookIn_ns hn₃
  refine set_plain X₃ (ox := { cls := .ref C, dict := some dx, data := .fields #[.ref t0, .none, .none, .none, .bool false, .none] }) (od := some oD) ⟨hx₃, rfl, rfl, hoD⟩ T.sa ?_
  refine PySem.OEX.osa_old X₃ hx₃ hn₃ (nl := ["inputs"]) (fun y hy => ?_) (by decide) hcl (show refsVE (.ref C :: bm) = true from hbm) rfl no2 (fun h₄ tk₄ k₄ hn₄ => ?_)
  · by_cases e : y = "inputs"
    · rw [e]; exact List.mem_cons_self
    · rw [if_neg e] at hy; exact absurd rfl hy
  exact wpAny_execs_nil (hq h₄ tk₄ dx ⟨fun b o hb e => k₄ b o (fun z => by
    have h1 := Heap.lt_size e
    rw [z] at h1
    exact absurd (Nat.lt_trans h1 zL) (Nat.not_lt.mpr dn)) (k₃ b o hb (k b o e)), k₄ x _ (Ne.symm dne) hx₃, Nat.le_of_lt (Nat.lt_of_lt_of_le zL dn), dne, hn₄⟩)
theorem mk_Unsure (T : RsAt K C fI) (no1 : findIn K (.ref C) "inputs" = some none) (no2 : findIn K (.ref C) "picks" = some none) (F : L2.FunD K "__init__" "Unsure.__init__" (xjA "inputs" "picks" p1 p2 p3) (xjB "inputs" "picks" q1 q2 q3 q4 q5 q6 q7 q8) (xjS "inputs" "picks") [] [] fI fd) {v u : Value} (X : K.In s.heap) (hlim : s.heap.NoLimit) (hroom : A.depth + 1 < recursionLimit)
    (hq : ∀ h' tk e d, ErrMade ["inputs", "picks"] s.heap h' e C d [v, u] → R (.ok (.ret (.ref e))) { s with heap := h', toks := tk }) :
    codeAny (model prog w) A (.call (.ref C) ⟨[v, u], []⟩) R s := by
  obtain ⟨nm, q, N, bs, bm, sn, sub, ab, col, dd, k0, k1, k2, k3, k5, hC, hbm⟩ := T.cls
  obtain ⟨hp, g, dr, tk, os⟩ := s
  have k : ∀ b o, hp.get? b = some o → ((hp.push (kdv_tup [v, u])).push (excO C hp.objs.size)).get? b = some o := fun b o e => Heap.get?_push_of_some _ (Heap.get?_push_of_some _ e)
  have hget : ((hp.push (kdv_tup [v, u])).push (excO C hp.objs.size)).get? (hp.objs.size + 1) = some (excO C hp.objs.size) := by heap_get
  have fresh : hp.get? (hp.objs.size + 1) = none := get_none (Nat.le_succ _)
  have hnx : K.lookup (hp.objs.size + 1) = none := by
    cases e : K.lookup (hp.objs.size + 1) with
    | none => rfl
    | some o => exact nomatch fresh.symm.trans (X _ _ e)
  refine call_own PySem.F.excBase_ValueError (fun X => refsVE_contains X bm hbm) (X _ _ hC) (looks_findIn X T.iC) (fun self => bind_fn X self T.tC) (xtwo_size v u) ?_
  refine mi_Unsure (s := ⟨(hp.push (kdv_tup [v, u])).push (excO C hp.objs.size), g, dr, tk, os⟩) T no1 no2 F (X.keeps k) (hlim.keeps k) hget hnx ?_ fun h' tk' dx J => ?_
  · show A.depth + 1 < recursionLimit
    exact hroom
  · have big : hp.objs.size + 1 + 1 ≤ dx := by
      have q := J.dbig
      first
        | (simpa only [Heap.size_push] using q)
        | exact q
    refine ⟨rfl, hq h' tk' (hp.objs.size + 1) (some dx) ⟨fun b o e => J.keep b o (fun z => by rw [z, fresh] at e; cases e) (k b o e), fresh, ⟨_, _, J.obj, rfl, rfl, rfl⟩, .inr ⟨dx, rfl, Nat.le_trans (Nat.le_trans (Nat.le_succ _) (Nat.le_succ _)) big, J.dne, ?_⟩⟩⟩
    have em : (fun (y : Str) => ((["inputs", "picks"] : List Str).zip [v, u]).lookup y) = fun (y : Str) => if y = "picks" then some u else if y = "inputs" then some v else none := by
      funext y
      show List.lookup y ([("inputs", v), ("picks", u)] : List (Str × Value)) = _
      by_cases h1 : y = "inputs"
      · subst h1
        rw [if_neg (by decide), if_pos rfl]
        rfl
      · have e1 : (y == ("inputs" : Str)) = false := by simpa using h1
        rw [List.lookup_cons, e1, if_neg h1]
        by_cases h2 : y = "picks"
        · subst h2
          rw [if_pos rfl]
          rfl
        · have e2 : (y == ("picks" : Str)) = false := by simpa using h2
          show List.lookup y ([("picks", u)] : List (Str × Value)) = _
          rw [List.lookup_cons, e2, if_neg h2]
          rfl
    rw [em]
    exact J.ns
theorem rs_Unsure (c : ClsAt K mg "Unsure" ["inputs", "picks"]) (T : RsAt K (He.ga K "Unsure") fI) (F : L2.FunD K "__init__" "Unsure.__init__" (xjA "inputs" "picks" p1 p2 p3) (xjB "inputs" "picks" q1 q2 q3 q4 q5 q6 q7 q8) (xjS "inputs" "picks") [] [] fI fd) : ErrIn prog w K mg "Unsure" ["inputs", "picks"] :=
  ⟨_, c.1, T.kC, fun {A Q E s us} hl X hn hr hq => match us, hl with
    | [v, u], _ => wpAny_call (mk_Unsure T (c.2.2 _ List.mem_cons_self) (c.2.2 _ (List.mem_cons_of_mem _ List.mem_cons_self)) F X hn hr hq)⟩
end
/-- a class without a maker of its own -/
def veTail : List Value := [.type "ValueError", .type "Exception", .type "BaseException", .type "object"]
def zeB (K : Frag) (c : Str) : Bool := okO (nsIn K mainGlobals c) (some (some (.ref (He.ga K c)))) && (excIn K (He.ga K c) veTail "ValueError.__new__" && keepIn K (.ref (He.ga K c)))
theorem zeB_ok {P : Program} {w : World} {K : Frag} {h : Heap} {mg : Str → Option Value} (X : K.In h) (G : h.Ns mainGlobals mg) {c : Str} (q : zeB K c = true) : ErrIn P w K mg c [] := by
  obtain ⟨h1, q⟩ := b2 q
  obtain ⟨h2, h3⟩ := b2 q
  exact ErrIn.zero PySem.F.excBase_ValueError h2 (mg_of X G (okO_ok h1)) h3
end Rf
set_option Elab.async false
set_option linter.all false
set_option maxRecDepth 100000
set_option maxHeartbeats 0
namespace Rf
open PySem PySem.Spec PyProof.Rows L2 TL
variable {xp : ExP}
noncomputable abbrev c__law_deck : Fn := c_deck
noncomputable abbrev m__law_same (r_self : Fn) : SM := sSeq (sIf (tOo (tTr (eCall bIsI (aCons (pVar 0) (aCons (eTup (aCons (eC (.ty "tuple")) (aCons (eC (.ty "list")) (aNil)))) (aNil))))) (tTr (eCall bIsI (aCons (pVar 1) (aCons (eTup (aCons (eC (.ty "tuple")) (aCons (eC (.ty "list")) (aNil)))) (aNil)))))) (sSeq (sIf (tOo (tOfE (eBin cNe (eCall bIsI (aCons (pVar 0) (aCons (eC (.ty "tuple")) (aNil)))) (eCall bIsI (aCons (pVar 1) (aCons (eC (.ty "tuple")) (aNil)))))) (tOfE (eBin cNe (eCall bIsI (aCons (pVar 0) (aCons (eC (.ty "list")) (aNil)))) (eCall bIsI (aCons (pVar 1) (aCons (eC (.ty "list")) (aNil))))))) (sSeq (sRet (eC (.bl false))) (sNil)) (sNil)) (sSeq (sRet (eAn (eBin cEq (eCall bLen (aCons (pVar 0) (aNil))) (eCall bLen (aCons (pVar 1) (aNil)))) (eCall bAll (aCons (eFz (fLc (iArS zipS (aCons (pVar 0) (aCons (pVar 1) (aNil)))) [2, 3] (.tup [.nm 2, .nm 3]) (tYs) (eFn r_self (aCons (eVar 2) (aCons (eVar 3) (aNil)))))) (aNil))))) (sNil))) (sNil)) (sSeq (sIf (tOo (tTr (eCall bIsI (aCons (pVar 0) (aCons (eC (.ty "bool")) (aNil))))) (tTr (eCall bIsI (aCons (pVar 1) (aCons (eC (.ty "bool")) (aNil)))))) (sSeq (sRet (eAn (eCall bIsI (aCons (pVar 0) (aCons (eC (.ty "bool")) (aNil)))) (eAn (eCall bIsI (aCons (pVar 1) (aCons (eC (.ty "bool")) (aNil)))) (eBin cEq (pVar 0) (pVar 1))))) (sNil)) (sNil)) (sSeq (sIf (tOo (tTr (eCall bIsI (aCons (pVar 0) (aCons (eC (.ty "int")) (aNil))))) (tTr (eCall bIsI (aCons (pVar 1) (aCons (eC (.ty "int")) (aNil)))))) (sSeq (sRet (eAn (eCall bIsI (aCons (pVar 0) (aCons (eC (.ty "int")) (aNil)))) (eAn (eCall bIsI (aCons (pVar 1) (aCons (eC (.ty "int")) (aNil)))) (eBin cEq (pVar 0) (pVar 1))))) (sNil)) (sNil)) (sSeq (sIf (tOo (tTr (eCall bIsI (aCons (pVar 0) (aCons (eC (.ty "str")) (aNil))))) (tTr (eCall bIsI (aCons (pVar 1) (aCons (eC (.ty "str")) (aNil)))))) (sSeq (sRet (eAn (eCall bIsI (aCons (pVar 0) (aCons (eC (.ty "str")) (aNil)))) (eAn (eCall bIsI (aCons (pVar 1) (aCons (eC (.ty "str")) (aNil)))) (eBin cEq (pVar 0) (pVar 1))))) (sNil)) (sNil)) (sSeq (sRet (eAn (eBin cIs (pVar 0) (eC .non)) (eBin cIs (pVar 1) (eC .non)))) (sNil)))))
noncomputable def c__law_same : Nat → Fn
  | 0 => fnSem 4 2 sNo
  | n + 1 => fnSem 4 2 (m__law_same (c__law_same n))
theorem u__law_same {x0 x1 : D} {n : Nat} {S : Sto} {P : D → Sto → Prop} (h : wps (m__law_same (c__law_same n) [.v x0, .v x1, .un, .un] S) fun fl _ S1 => match fl with
    | .nx => P .non S1
    | .rt d => P d S1
    | _ => False) : wp (c__law_same (n + 1) [x0, x1] S) P := q_fn rfl h
noncomputable abbrev c__law_draw : Fn := c_draw1
noncomputable abbrev c__law_one : Fn := c_one
end Rf
set_option Elab.async false
set_option linter.all false
set_option maxRecDepth 100000
set_option maxHeartbeats 0
namespace Lw
open PySem PySem.Spec PyProof.Rows L2 TL Rf
variable {xp : ExP}
def top (i : Nat) : Stmt := PySem.Challenge.pw_maybesame_k90_errors_made_by_hand.main.body.getD i (.Pass ⟨0, 0, 0, 0⟩)
def ki_BadBars : IsT := isT [("BadBars", true), ("BadEdit", false), ("BadEdits", false), ("BadInputs", false), ("BadPicks", false), ("BadProgram", false), ("BadText", false), ("BarThere", false), ("Busy", false), ("Clash", false), ("MaybeError", false), ("NoBar", false), ("NoBars", false), ("NoMaking", false), ("NoPin", false), ("NoPlace", false), ("NoTest", false), ("NoVersion", false), ("NothingToUndo", false), ("Rejected", false), ("TooMany", false), ("TooManyEdits", false), ("Unsure", false)]
def ki_BadEdit : IsT := isT [("BadBars", false), ("BadEdit", true), ("BadEdits", false), ("BadInputs", false), ("BadPicks", false), ("BadProgram", false), ("BadText", false), ("BarThere", false), ("Busy", false), ("Clash", false), ("MaybeError", false), ("NoBar", false), ("NoBars", false), ("NoMaking", false), ("NoPin", false), ("NoPlace", false), ("NoTest", false), ("NoVersion", false), ("NothingToUndo", false), ("Rejected", false), ("TooMany", false), ("TooManyEdits", false), ("Unsure", false)]
def ki_BadEdits : IsT := isT [("BadBars", false), ("BadEdit", false), ("BadEdits", true), ("BadInputs", false), ("BadPicks", false), ("BadProgram", false), ("BadText", false), ("BarThere", false), ("Busy", false), ("Clash", false), ("MaybeError", false), ("NoBar", false), ("NoBars", false), ("NoMaking", false), ("NoPin", false), ("NoPlace", false), ("NoTest", false), ("NoVersion", false), ("NothingToUndo", false), ("Rejected", false), ("TooMany", false), ("TooManyEdits", false), ("Unsure", false)]
def ki_BadInputs : IsT := isT [("BadBars", false), ("BadEdit", false), ("BadEdits", false), ("BadInputs", true), ("BadPicks", false), ("BadProgram", false), ("BadText", false), ("BarThere", false), ("Busy", false), ("Clash", false), ("MaybeError", false), ("NoBar", false), ("NoBars", false), ("NoMaking", false), ("NoPin", false), ("NoPlace", false), ("NoTest", false), ("NoVersion", false), ("NothingToUndo", false), ("Rejected", false), ("TooMany", false), ("TooManyEdits", false), ("Unsure", false)]
def ki_BadPicks : IsT := isT [("BadBars", false), ("BadEdit", false), ("BadEdits", false), ("BadInputs", false), ("BadPicks", true), ("BadProgram", false), ("BadText", false), ("BarThere", false), ("Busy", false), ("Clash", false), ("MaybeError", false), ("NoBar", false), ("NoBars", false), ("NoMaking", false), ("NoPin", false), ("NoPlace", false), ("NoTest", false), ("NoVersion", false), ("NothingToUndo", false), ("Rejected", false), ("TooMany", false), ("TooManyEdits", false), ("Unsure", false)]
def ki_BadProgram : IsT := isT [("BadBars", false), ("BadEdit", false), ("BadEdits", false), ("BadInputs", false), ("BadPicks", false), ("BadProgram", true), ("BadText", false), ("BarThere", false), ("Busy", false), ("Clash", false), ("MaybeError", false), ("NoBar", false), ("NoBars", false), ("NoMaking", false), ("NoPin", false), ("NoPlace", false), ("NoTest", false), ("NoVersion", false), ("NothingToUndo", false), ("Rejected", false), ("TooMany", false), ("TooManyEdits", false), ("Unsure", false)]
def ki_BadText : IsT := isT [("BadBars", false), ("BadEdit", false), ("BadEdits", false), ("BadInputs", false), ("BadPicks", false), ("BadProgram", false), ("BadText", true), ("BarThere", false), ("Busy", false), ("Clash", false), ("MaybeError", false), ("NoBar", false), ("NoBars", false), ("NoMaking", false), ("NoPin", false), ("NoPlace", false), ("NoTest", false), ("NoVersion", false), ("NothingToUndo", false), ("Rejected", false), ("TooMany", false), ("TooManyEdits", false), ("Unsure", false)]
def ki_BarThere : IsT := isT [("BadBars", false), ("BadEdit", false), ("BadEdits", false), ("BadInputs", false), ("BadPicks", false), ("BadProgram", false), ("BadText", false), ("BarThere", true), ("Busy", false), ("Clash", false), ("MaybeError", false), ("NoBar", false), ("NoBars", false), ("NoMaking", false), ("NoPin", false), ("NoPlace", false), ("NoTest", false), ("NoVersion", false), ("NothingToUndo", false), ("Rejected", false), ("TooMany", false), ("TooManyEdits", false), ("Unsure", false)]
def ki_Busy : IsT := isT [("BadBars", false), ("BadEdit", false), ("BadEdits", false), ("BadInputs", false), ("BadPicks", false), ("BadProgram", false), ("BadText", false), ("BarThere", false), ("Busy", true), ("Clash", false), ("MaybeError", false), ("NoBar", false), ("NoBars", false), ("NoMaking", false), ("NoPin", false), ("NoPlace", false), ("NoTest", false), ("NoVersion", false), ("NothingToUndo", false), ("Rejected", false), ("TooMany", false), ("TooManyEdits", false), ("Unsure", false)]
def ki_Clash : IsT := isT [("BadBars", false), ("BadEdit", false), ("BadEdits", false), ("BadInputs", false), ("BadPicks", false), ("BadProgram", false), ("BadText", false), ("BarThere", false), ("Busy", false), ("Clash", true), ("MaybeError", false), ("NoBar", false), ("NoBars", false), ("NoMaking", false), ("NoPin", false), ("NoPlace", false), ("NoTest", false), ("NoVersion", false), ("NothingToUndo", false), ("Rejected", false), ("TooMany", false), ("TooManyEdits", false), ("Unsure", false)]
def ki_LookupError : IsT := isT [("BadBars", false), ("BadEdit", false), ("BadEdits", false), ("BadInputs", false), ("BadPicks", false), ("BadProgram", false), ("BadText", false), ("BarThere", false), ("Busy", false), ("Clash", false), ("MaybeError", false), ("NoBar", false), ("NoBars", false), ("NoMaking", false), ("NoPin", false), ("NoPlace", true), ("NoTest", false), ("NoVersion", true), ("NothingToUndo", false), ("Rejected", false), ("TooMany", false), ("TooManyEdits", false), ("Unsure", false)]
def ki_MaybeError : IsT := isT [("BadBars", true), ("BadEdit", true), ("BadEdits", true), ("BadInputs", true), ("BadPicks", true), ("BadProgram", true), ("BadText", true), ("BarThere", true), ("Busy", true), ("Clash", true), ("MaybeError", true), ("NoBar", true), ("NoBars", true), ("NoMaking", true), ("NoPin", true), ("NoPlace", false), ("NoTest", true), ("NoVersion", false), ("NothingToUndo", true), ("Rejected", true), ("TooMany", true), ("TooManyEdits", true), ("Unsure", true)]
def ki_NoBar : IsT := isT [("BadBars", false), ("BadEdit", false), ("BadEdits", false), ("BadInputs", false), ("BadPicks", false), ("BadProgram", false), ("BadText", false), ("BarThere", false), ("Busy", false), ("Clash", false), ("MaybeError", false), ("NoBar", true), ("NoBars", false), ("NoMaking", false), ("NoPin", false), ("NoPlace", false), ("NoTest", false), ("NoVersion", false), ("NothingToUndo", false), ("Rejected", false), ("TooMany", false), ("TooManyEdits", false), ("Unsure", false)]
def ki_NoBars : IsT := isT [("BadBars", false), ("BadEdit", false), ("BadEdits", false), ("BadInputs", false), ("BadPicks", false), ("BadProgram", false), ("BadText", false), ("BarThere", false), ("Busy", false), ("Clash", false), ("MaybeError", false), ("NoBar", false), ("NoBars", true), ("NoMaking", false), ("NoPin", false), ("NoPlace", false), ("NoTest", false), ("NoVersion", false), ("NothingToUndo", false), ("Rejected", false), ("TooMany", false), ("TooManyEdits", false), ("Unsure", false)]
def ki_NoMaking : IsT := isT [("BadBars", false), ("BadEdit", false), ("BadEdits", false), ("BadInputs", false), ("BadPicks", false), ("BadProgram", false), ("BadText", false), ("BarThere", false), ("Busy", false), ("Clash", false), ("MaybeError", false), ("NoBar", false), ("NoBars", false), ("NoMaking", true), ("NoPin", false), ("NoPlace", false), ("NoTest", false), ("NoVersion", false), ("NothingToUndo", false), ("Rejected", false), ("TooMany", false), ("TooManyEdits", false), ("Unsure", false)]
def ki_NoPin : IsT := isT [("BadBars", false), ("BadEdit", false), ("BadEdits", false), ("BadInputs", false), ("BadPicks", false), ("BadProgram", false), ("BadText", false), ("BarThere", false), ("Busy", false), ("Clash", false), ("MaybeError", false), ("NoBar", false), ("NoBars", false), ("NoMaking", false), ("NoPin", true), ("NoPlace", false), ("NoTest", false), ("NoVersion", false), ("NothingToUndo", false), ("Rejected", false), ("TooMany", false), ("TooManyEdits", false), ("Unsure", false)]
def ki_NoPlace : IsT := isT [("BadBars", false), ("BadEdit", false), ("BadEdits", false), ("BadInputs", false), ("BadPicks", false), ("BadProgram", false), ("BadText", false), ("BarThere", false), ("Busy", false), ("Clash", false), ("MaybeError", false), ("NoBar", false), ("NoBars", false), ("NoMaking", false), ("NoPin", false), ("NoPlace", true), ("NoTest", false), ("NoVersion", false), ("NothingToUndo", false), ("Rejected", false), ("TooMany", false), ("TooManyEdits", false), ("Unsure", false)]
def ki_NoTest : IsT := isT [("BadBars", false), ("BadEdit", false), ("BadEdits", false), ("BadInputs", false), ("BadPicks", false), ("BadProgram", false), ("BadText", false), ("BarThere", false), ("Busy", false), ("Clash", false), ("MaybeError", false), ("NoBar", false), ("NoBars", false), ("NoMaking", false), ("NoPin", false), ("NoPlace", false), ("NoTest", true), ("NoVersion", false), ("NothingToUndo", false), ("Rejected", false), ("TooMany", false), ("TooManyEdits", false), ("Unsure", false)]
def ki_NoVersion : IsT := isT [("BadBars", false), ("BadEdit", false), ("BadEdits", false), ("BadInputs", false), ("BadPicks", false), ("BadProgram", false), ("BadText", false), ("BarThere", false), ("Busy", false), ("Clash", false), ("MaybeError", false), ("NoBar", false), ("NoBars", false), ("NoMaking", false), ("NoPin", false), ("NoPlace", false), ("NoTest", false), ("NoVersion", true), ("NothingToUndo", false), ("Rejected", false), ("TooMany", false), ("TooManyEdits", false), ("Unsure", false)]
def ki_NothingToUndo : IsT := isT [("BadBars", false), ("BadEdit", false), ("BadEdits", false), ("BadInputs", false), ("BadPicks", false), ("BadProgram", false), ("BadText", false), ("BarThere", false), ("Busy", false), ("Clash", false), ("MaybeError", false), ("NoBar", false), ("NoBars", false), ("NoMaking", false), ("NoPin", false), ("NoPlace", false), ("NoTest", false), ("NoVersion", false), ("NothingToUndo", true), ("Rejected", false), ("TooMany", false), ("TooManyEdits", false), ("Unsure", false)]
def ki_Rejected : IsT := isT [("BadBars", false), ("BadEdit", false), ("BadEdits", false), ("BadInputs", false), ("BadPicks", false), ("BadProgram", false), ("BadText", false), ("BarThere", false), ("Busy", false), ("Clash", false), ("MaybeError", false), ("NoBar", false), ("NoBars", false), ("NoMaking", false), ("NoPin", false), ("NoPlace", false), ("NoTest", false), ("NoVersion", false), ("NothingToUndo", false), ("Rejected", true), ("TooMany", false), ("TooManyEdits", false), ("Unsure", false)]
def ki_TooMany : IsT := isT [("BadBars", false), ("BadEdit", false), ("BadEdits", false), ("BadInputs", false), ("BadPicks", false), ("BadProgram", false), ("BadText", false), ("BarThere", false), ("Busy", false), ("Clash", false), ("MaybeError", false), ("NoBar", false), ("NoBars", false), ("NoMaking", false), ("NoPin", false), ("NoPlace", false), ("NoTest", false), ("NoVersion", false), ("NothingToUndo", false), ("Rejected", false), ("TooMany", true), ("TooManyEdits", false), ("Unsure", false)]
def ki_TooManyEdits : IsT := isT [("BadBars", false), ("BadEdit", false), ("BadEdits", false), ("BadInputs", false), ("BadPicks", false), ("BadProgram", false), ("BadText", false), ("BarThere", false), ("Busy", false), ("Clash", false), ("MaybeError", false), ("NoBar", false), ("NoBars", false), ("NoMaking", false), ("NoPin", false), ("NoPlace", false), ("NoTest", false), ("NoVersion", false), ("NothingToUndo", false), ("Rejected", false), ("TooMany", false), ("TooManyEdits", true), ("Unsure", false)]
def ki_Unsure : IsT := isT [("BadBars", false), ("BadEdit", false), ("BadEdits", false), ("BadInputs", false), ("BadPicks", false), ("BadProgram", false), ("BadText", false), ("BarThere", false), ("Busy", false), ("Clash", false), ("MaybeError", false), ("NoBar", false), ("NoBars", false), ("NoMaking", false), ("NoPin", false), ("NoPlace", false), ("NoTest", false), ("NoVersion", false), ("NothingToUndo", false), ("Rejected", false), ("TooMany", false), ("TooManyEdits", false), ("Unsure", true)]
def ki_ValueError : IsT := isT [("BadBars", true), ("BadEdit", true), ("BadEdits", true), ("BadInputs", true), ("BadPicks", true), ("BadProgram", true), ("BadText", true), ("BarThere", true), ("Busy", true), ("Clash", true), ("MaybeError", true), ("NoBar", true), ("NoBars", true), ("NoMaking", true), ("NoPin", true), ("NoPlace", false), ("NoTest", true), ("NoVersion", false), ("NothingToUndo", true), ("Rejected", true), ("TooMany", true), ("TooManyEdits", true), ("Unsure", true)]
def xf_error : Str → Bool := fun c => (["BadProgram"] : List Str).contains c
def xf_index : Str → Bool := fun c => (["BadEdit", "Rejected"] : List Str).contains c
def xf_inputs : Str → Bool := fun c => (["Unsure"] : List Str).contains c
def xf_picks : Str → Bool := fun c => (["Unsure"] : List Str).contains c
def xf_place : Str → Bool := fun c => (["BadText", "BarThere", "NoBar", "NoMaking", "NoPin", "NoPlace", "NoTest"] : List Str).contains c
def xf_steps : Str → Bool := fun c => (["Clash"] : List Str).contains c
def xf_value : Str → Bool := fun c => (["BadBars", "BadInputs", "BadPicks", "NoVersion"] : List Str).contains c
noncomputable abbrev m__law_bounds_right : SM := sSeq (sSet 0 (eFz (fLst (aCons (eC (.int 8)) (aCons (eC (.int 8)) (aCons (eC (.int 150)) (aCons (eC (.int 6)) (aCons (eC (.int 60)) (aCons (eC (.int 1000000000000000000)) (aCons (eC (.int 2)) (aCons (eC (.int 12)) (aCons (eC (.int 4)) (aNil))))))))))))) (sSeq (sSet 0 (eBin oAdd (pVar 0) (eFz (fLst (aCons (eC (.int 30)) (aCons (eC (.int 200)) (aCons (eC (.int 3)) (aCons (eC (.int 30)) (aCons (eC (.int 30)) (aCons (eC (.int 200)) (aCons (eC (.int 500)) (aCons (eC (.int 64)) (aNil))))))))))))) (sSeq (sSet 0 (eBin oAdd (pVar 0) (eFz (fLst (aCons (eC (.int 400)) (aCons (eC (.int 3)) (aCons (eC (.int 3)) (aCons (eC (.int 6)) (aCons (eC (.int 60)) (aCons (eC (.int 20)) (aNil))))))))))) (sSeq (sSet 1 (eFz (fLst (aCons (eC (.int 8)) (aCons (eC (.int 8)) (aCons (eC (.int 150)) (aCons (eC (.int 6)) (aCons (eC (.int 60)) (aCons (eBin oPow (eC (.int 10)) (eC (.int 18))) (aCons (eC (.int 2)) (aCons (eC (.int 12)) (aCons (eC (.int 4)) (aCons (eC (.int 30)) (aCons (eC (.int 200)) (aCons (eC (.int 3)) (aCons (eC (.int 30)) (aCons (eC (.int 30)) (aCons (eC (.int 200)) (aCons (eC (.int 500)) (aCons (eC (.int 64)) (aCons (eC (.int 400)) (aCons (eC (.int 3)) (aCons (eC (.int 3)) (aCons (eC (.int 6)) (aCons (eC (.int 60)) (aCons (eC (.int 20)) (aNil))))))))))))))))))))))))))) (sSeq (sRet (eFn (c__law_same 40) (aCons (eVar 0) (aCons (eVar 1) (aNil))))) (sNil)))))
noncomputable def c__law_bounds_right : Fn := fnSem 2 0 m__law_bounds_right
theorem u__law_bounds_right {S : Sto} {P : D → Sto → Prop} (h : wps (m__law_bounds_right [.un, .un] S) fun fl _ S1 => match fl with
    | .nx => P .non S1
    | .rt d => P d S1
    | _ => False) : wp (c__law_bounds_right [] S) P := q_fn rfl h
noncomputable abbrev m__law_value : SM := sSeq (sSet 1 (eBin oSub (eFn c__law_draw (aCons (eVar 0) (aCons (eBin oPow (eC (.int 10)) (eC (.int 9))) (aNil)))) (eBin oMul (eC (.int 5)) (eBin oPow (eC (.int 10)) (eC (.int 8)))))) (sSeq (sSet 2 (eFz (fLst (aCons (eC .non) (aCons (eC (.bl true)) (aCons (eC (.bl false)) (aCons (eC (.int 0)) (aCons (eC (.int 1)) (aCons (eVar 1) (aCons (eCall bStr (aCons (pVar 1) (aNil))) (aCons (eC (.str [])) (aCons (eTup (aNil)) (aCons (eTup (aCons (eVar 1) (aNil))) (aCons (eFz (fLst (aCons (eVar 1) (aNil)))) (aCons (eTup (aCons (eC .non) (aCons (eC (.str [112, 108, 97, 99, 101, 115])) (aNil)))) (aCons (eTup (aCons (eTup (aCons (eC (.int 1)) (aNil))) (aCons (eC (.bl true)) (aNil)))) (aNil))))))))))))))))) (sSeq (sRet (eFn c__law_one (aCons (eVar 0) (aCons (eVar 2) (aNil))))) (sNil)))
noncomputable def c__law_value : Fn := fnSem 3 1 m__law_value
theorem u__law_value {x0 : D} {S : Sto} {P : D → Sto → Prop} (h : wps (m__law_value [.v x0, .un, .un] S) fun fl _ S1 => match fl with
    | .nx => P .non S1
    | .rt d => P d S1
    | _ => False) : wp (c__law_value [x0] S) P := q_fn rfl h
noncomputable abbrev m__law_kinds : SM := sSeq (sSet 1 (eFz (fLst (aCons (eIsD ki_TooMany (eVar 0)) (aCons (eIsD ki_Clash (eVar 0)) (aCons (eIsD ki_BadText (eVar 0)) (aCons (eIsD ki_BadProgram (eVar 0)) (aNil)))))))) (sSeq (sSet 1 (eBin oAdd (pVar 1) (eFz (fLst (aCons (eIsD ki_BadBars (eVar 0)) (aCons (eIsD ki_BadInputs (eVar 0)) (aCons (eIsD ki_BadPicks (eVar 0)) (aCons (eIsD ki_NoTest (eVar 0)) (aNil))))))))) (sSeq (sSet 1 (eBin oAdd (pVar 1) (eFz (fLst (aCons (eIsD ki_NoPin (eVar 0)) (aCons (eIsD ki_NoMaking (eVar 0)) (aCons (eIsD ki_BarThere (eVar 0)) (aCons (eIsD ki_NoBar (eVar 0)) (aNil))))))))) (sSeq (sSet 1 (eBin oAdd (pVar 1) (eFz (fLst (aCons (eIsD ki_NoBars (eVar 0)) (aCons (eIsD ki_Unsure (eVar 0)) (aCons (eIsD ki_Busy (eVar 0)) (aCons (eIsD ki_TooManyEdits (eVar 0)) (aNil))))))))) (sSeq (sSet 1 (eBin oAdd (pVar 1) (eFz (fLst (aCons (eIsD ki_NothingToUndo (eVar 0)) (aCons (eIsD ki_BadEdits (eVar 0)) (aCons (eIsD ki_BadEdit (eVar 0)) (aNil)))))))) (sSeq (sRet (eBin oAdd (pVar 1) (eFz (fLst (aCons (eIsD ki_Rejected (eVar 0)) (aNil)))))) (sNil))))))
noncomputable def c__law_kinds : Fn := fnSem 2 1 m__law_kinds
theorem u__law_kinds {x0 : D} {S : Sto} {P : D → Sto → Prop} (h : wps (m__law_kinds [.v x0, .un] S) fun fl _ S1 => match fl with
    | .nx => P .non S1
    | .rt d => P d S1
    | _ => False) : wp (c__law_kinds [x0] S) P := q_fn rfl h
noncomputable abbrev m__law_kinds_right : SM := sSeq (sSet 1 (eFz (fLst (aCons (eErr "TooMany" [] aNil) (aCons (eErr "Clash" ["steps"] (aCons (eVar 0) (aNil))) (aCons (eErr "BadText" ["place"] (aCons (eVar 0) (aNil))) (aCons (eErr "BadProgram" ["error"] (aCons (eVar 0) (aNil))) (aCons (eErr "BadBars" ["value"] (aCons (eVar 0) (aNil))) (aCons (eErr "BadInputs" ["value"] (aCons (eVar 0) (aNil))) (aCons (eErr "BadPicks" ["value"] (aCons (eVar 0) (aNil))) (aCons (eErr "NoTest" ["place"] (aCons (eVar 0) (aNil))) (aCons (eErr "NoPin" ["place"] (aCons (eVar 0) (aNil))) (aNil))))))))))))) (sSeq (sSet 1 (eBin oAdd (pVar 1) (eFz (fLst (aCons (eErr "NoMaking" ["place"] (aCons (eVar 0) (aNil))) (aCons (eErr "BarThere" ["place"] (aCons (eVar 0) (aNil))) (aCons (eErr "NoBar" ["place"] (aCons (eVar 0) (aNil))) (aCons (eErr "NoBars" [] aNil) (aCons (eErr "Unsure" ["inputs", "picks"] (aCons (eVar 0) (aCons (eVar 0) (aNil)))) (aCons (eErr "Busy" [] aNil) (aCons (eErr "TooManyEdits" [] aNil) (aCons (eErr "NothingToUndo" [] aNil) (aNil))))))))))))) (sSeq (sSet 1 (eBin oAdd (pVar 1) (eFz (fLst (aCons (eErr "BadEdits" [] aNil) (aCons (eErr "BadEdit" ["index"] (aCons (eVar 0) (aNil))) (aCons (eErr "Rejected" ["index"] (aCons (eVar 0) (aNil))) (aNil)))))))) (sSeq (sFor (iArgs rng1 (aCons (eC (.int 20)) (aNil))) (.nm 2) (sSeq (sIf (tOo (tOfE (eBin cNe (eFn c__law_kinds (aCons (eBin oIx (pVar 1) (pVar 2)) (aNil))) (eFz (fLc (iArgs rng1 (aCons (eC (.int 20)) (aNil))) [3] (.nm 3) (tYs) (eBin cEq (pVar 3) (pVar 2)))))) (tTr (eIsD ki_LookupError (eBin oIx (pVar 1) (pVar 2))))) (sSeq (sRet (eC (.bl false))) (sNil)) (sNil)) (sSeq (sIf (tOo (tNt (tTr (eIsD ki_MaybeError (eBin oIx (pVar 1) (pVar 2))))) (tNt (tTr (eIsD ki_ValueError (eBin oIx (pVar 1) (pVar 2)))))) (sSeq (sRet (eC (.bl false))) (sNil)) (sNil)) (sNil)))) (sSeq (sFor (iVal (eFz (fLst (aCons (eErr "NoPlace" ["place"] (aCons (eVar 0) (aNil))) (aCons (eErr "NoVersion" ["value"] (aCons (eVar 0) (aNil))) (aCons (eErr "MaybeError" [] aNil) (aNil))))))) (.nm 4) (sSeq (sIf (tOfE (eBin cIn (eC (.bl true)) (eFn c__law_kinds (aCons (eVar 4) (aNil))))) (sSeq (sRet (eC (.bl false))) (sNil)) (sNil)) (sNil))) (sSeq (sFor (iVal (eFz (fLst (aCons (eErr "NoPlace" ["place"] (aCons (eVar 0) (aNil))) (aCons (eErr "NoVersion" ["value"] (aCons (eVar 0) (aNil))) (aNil)))))) (.nm 4) (sSeq (sIf (tOo (tNt (tTr (eIsD ki_LookupError (eVar 4)))) (tOo (tTr (eIsD ki_ValueError (eVar 4))) (tTr (eIsD ki_MaybeError (eVar 4))))) (sSeq (sRet (eC (.bl false))) (sNil)) (sNil)) (sNil))) (sSeq (sRet (eAn (eNt (eIsD ki_NoVersion (eErr "NoPlace" ["place"] (aCons (eVar 0) (aNil))))) (eNt (eIsD ki_NoPlace (eErr "NoVersion" ["value"] (aCons (eVar 0) (aNil))))))) (sNil)))))))
noncomputable def c__law_kinds_right : Fn := fnSem 5 1 m__law_kinds_right
theorem u__law_kinds_right {x0 : D} {S : Sto} {P : D → Sto → Prop} (h : wps (m__law_kinds_right [.v x0, .un, .un, .un, .un] S) fun fl _ S1 => match fl with
    | .nx => P .non S1
    | .rt d => P d S1
    | _ => False) : wp (c__law_kinds_right [x0] S) P := q_fn rfl h
noncomputable abbrev m__law_fields_right : SM := sSeq (sSet 2 (eFz (fLst (aCons (eXfD xf_steps "steps" (eErr "Clash" ["steps"] (aCons (eVar 0) (aNil)))) (aCons (eXfD xf_place "place" (eErr "BadText" ["place"] (aCons (eVar 0) (aNil)))) (aCons (eXfD xf_error "error" (eErr "BadProgram" ["error"] (aCons (eVar 0) (aNil)))) (aCons (eXfD xf_value "value" (eErr "BadBars" ["value"] (aCons (eVar 0) (aNil)))) (aCons (eXfD xf_value "value" (eErr "BadInputs" ["value"] (aCons (eVar 0) (aNil)))) (aNil))))))))) (sSeq (sSet 2 (eBin oAdd (pVar 2) (eFz (fLst (aCons (eXfD xf_value "value" (eErr "BadPicks" ["value"] (aCons (eVar 0) (aNil)))) (aCons (eXfD xf_place "place" (eErr "NoTest" ["place"] (aCons (eVar 0) (aNil)))) (aCons (eXfD xf_place "place" (eErr "NoPin" ["place"] (aCons (eVar 0) (aNil)))) (aCons (eXfD xf_place "place" (eErr "NoMaking" ["place"] (aCons (eVar 0) (aNil)))) (aCons (eXfD xf_place "place" (eErr "BarThere" ["place"] (aCons (eVar 0) (aNil)))) (aNil)))))))))) (sSeq (sSet 2 (eBin oAdd (pVar 2) (eFz (fLst (aCons (eXfD xf_place "place" (eErr "NoBar" ["place"] (aCons (eVar 0) (aNil)))) (aCons (eXfD xf_index "index" (eErr "BadEdit" ["index"] (aCons (eVar 0) (aNil)))) (aCons (eXfD xf_index "index" (eErr "Rejected" ["index"] (aCons (eVar 0) (aNil)))) (aCons (eXfD xf_place "place" (eErr "NoPlace" ["place"] (aCons (eVar 0) (aNil)))) (aCons (eXfD xf_value "value" (eErr "NoVersion" ["value"] (aCons (eVar 0) (aNil)))) (aNil)))))))))) (sSeq (sSet 2 (eBin oAdd (pVar 2) (eFz (fLst (aCons (eXfD xf_inputs "inputs" (eErr "Unsure" ["inputs", "picks"] (aCons (eVar 0) (aCons (eVar 1) (aNil))))) (aCons (eXfD xf_picks "picks" (eErr "Unsure" ["inputs", "picks"] (aCons (eVar 1) (aCons (eVar 0) (aNil))))) (aNil))))))) (sSeq (sRet (eCall bAll (aCons (eFz (fLc (iVal (pVar 2)) [3] (.nm 3) (tYs) (eFn (c__law_same 40) (aCons (eVar 3) (aCons (eVar 0) (aNil)))))) (aNil)))) (sNil)))))
noncomputable def c__law_fields_right : Fn := fnSem 4 2 m__law_fields_right
theorem u__law_fields_right {x0 x1 : D} {S : Sto} {P : D → Sto → Prop} (h : wps (m__law_fields_right [.v x0, .v x1, .un, .un] S) fun fl _ S1 => match fl with
    | .nx => P .non S1
    | .rt d => P d S1
    | _ => False) : wp (c__law_fields_right [x0, x1] S) P := q_fn rfl h
noncomputable abbrev m_law : SM := sSeq (sSet 1 (eFn c__law_deck (aCons (eVar 0) (aNil)))) (sSeq (sFor (iArgs rng1 (aCons (eC (.int 4)) (aNil))) (.nm 2) (sSeq (sPar2 3 4 (aCons (eFn c__law_value (aCons (eVar 1) (aNil))) (aCons (eFn c__law_value (aCons (eVar 1) (aNil))) (aNil)))) (sSeq (sIf (tOo (tNt (tTr (eFn c__law_kinds_right (aCons (eVar 3) (aNil))))) (tNt (tTr (eFn c__law_fields_right (aCons (eVar 3) (aCons (eVar 4) (aNil))))))) (sSeq (sRet (eC (.bl false))) (sNil)) (sNil)) (sNil)))) (sSeq (sRet (eFn c__law_bounds_right aNil)) (sNil)))
noncomputable def c_law : Fn := fnSem 5 1 m_law
theorem u_law {x0 : D} {S : Sto} {P : D → Sto → Prop} (h : wps (m_law [.v x0, .un, .un, .un, .un] S) fun fl _ S1 => match fl with
    | .nx => P .non S1
    | .rt d => P d S1
    | _ => False) : wp (c_law [x0] S) P := q_fn rfl h
end Lw
set_option Elab.async false
set_option linter.all false
set_option maxRecDepth 100000
set_option maxHeartbeats 0
namespace Lw
open PySem PySem.Spec PyProof.Rows L2 TL Rf
structure Fc (P : Program) (w : World) (K : PySem.W.Frag) (mg : Str → Option Value) : Prop where
  d__law_deck : DefAt K mg "_law_deck" (top 48)
  d__law_same : DefAt K mg "_law_same" (top 51)
  d__law_bounds_right : DefAt K mg "_law_bounds_right" (top 56)
  d__law_draw : DefAt K mg "_law_draw" (top 49)
  d__law_one : DefAt K mg "_law_one" (top 50)
  d__law_value : DefAt K mg "_law_value" (top 52)
  d__law_kinds : DefAt K mg "_law_kinds" (top 53)
  d__law_kinds_right : DefAt K mg "_law_kinds_right" (top 54)
  d__law_fields_right : DefAt K mg "_law_fields_right" (top 55)
  d_law : DefAt K mg "law" (top 57)
  b_LookupError : mg "LookupError" = none
  b_ValueError : mg "ValueError" = none
  b_abs : mg "abs" = none
  b_all : mg "all" = none
  b_bool : mg "bool" = none
  b_int : mg "int" = none
  b_isinstance : mg "isinstance" = none
  b_len : mg "len" = none
  b_list : mg "list" = none
  b_max : mg "max" = none
  b_range : mg "range" = none
  b_str : mg "str" = none
  b_tuple : mg "tuple" = none
  b_zip : mg "zip" = none
  k_BATCH : ConAt (k0 K mg w) "BATCH" (.int 20)
  k_MAX_ANSWERS : ConAt (k0 K mg w) "MAX_ANSWERS" (.int 400)
  k_MAX_BARS : ConAt (k0 K mg w) "MAX_BARS" (.int 3)
  k_MAX_DIGITS : ConAt (k0 K mg w) "MAX_DIGITS" (.int 150)
  k_MAX_EDITS : ConAt (k0 K mg w) "MAX_EDITS" (.int 60)
  k_MAX_GIVENS : ConAt (k0 K mg w) "MAX_GIVENS" (.int 2)
  k_MAX_INDEX : ConAt (k0 K mg w) "MAX_INDEX" (.int 60)
  k_MAX_MENDS : ConAt (k0 K mg w) "MAX_MENDS" (.int 3)
  k_MAX_MEND_PLACES : ConAt (k0 K mg w) "MAX_MEND_PLACES" (.int 6)
  k_MAX_NAME : ConAt (k0 K mg w) "MAX_NAME" (.int 8)
  k_MAX_NEST : ConAt (k0 K mg w) "MAX_NEST" (.int 4)
  k_MAX_NUMBER : ConAt (k0 K mg w) "MAX_NUMBER" (.int 1000000000000000000)
  k_MAX_PARTS : ConAt (k0 K mg w) "MAX_PARTS" (.int 6)
  k_MAX_PLACES : ConAt (k0 K mg w) "MAX_PLACES" (.int 30)
  k_MAX_QUESTIONS : ConAt (k0 K mg w) "MAX_QUESTIONS" (.int 200)
  k_MAX_ROW : ConAt (k0 K mg w) "MAX_ROW" (.int 30)
  k_MAX_SIZE : ConAt (k0 K mg w) "MAX_SIZE" (.int 30)
  k_MAX_THINGS : ConAt (k0 K mg w) "MAX_THINGS" (.int 500)
  k_MAX_TIMES : ConAt (k0 K mg w) "MAX_TIMES" (.int 12)
  k_MAX_WAYS : ConAt (k0 K mg w) "MAX_WAYS" (.int 64)
  k_MAX_WEIGHT : ConAt (k0 K mg w) "MAX_WEIGHT" (.int 200)
  k_MAX_WORD : ConAt (k0 K mg w) "MAX_WORD" (.int 8)
  k_MAX_WORDS : ConAt (k0 K mg w) "MAX_WORDS" (.int 3)
  x_BadBars : ClsAt K mg "BadBars" ["value"]
  x_BadEdit : ClsAt K mg "BadEdit" ["index"]
  x_BadInputs : ClsAt K mg "BadInputs" ["value"]
  x_BadPicks : ClsAt K mg "BadPicks" ["value"]
  x_BadProgram : ClsAt K mg "BadProgram" ["error"]
  x_BadText : ClsAt K mg "BadText" ["place"]
  x_BarThere : ClsAt K mg "BarThere" ["place"]
  x_Clash : ClsAt K mg "Clash" ["steps"]
  x_NoBar : ClsAt K mg "NoBar" ["place"]
  x_NoMaking : ClsAt K mg "NoMaking" ["place"]
  x_NoPin : ClsAt K mg "NoPin" ["place"]
  x_NoPlace : ClsAt K mg "NoPlace" ["place"]
  x_NoTest : ClsAt K mg "NoTest" ["place"]
  x_NoVersion : ClsAt K mg "NoVersion" ["value"]
  x_Rejected : ClsAt K mg "Rejected" ["index"]
  r_BadBars : ∀ P : Program, RaiseIn P w K mg "BadBars" "value"
  r_BadEdit : ∀ P : Program, RaiseIn P w K mg "BadEdit" "index"
  r_BadInputs : ∀ P : Program, RaiseIn P w K mg "BadInputs" "value"
  r_BadPicks : ∀ P : Program, RaiseIn P w K mg "BadPicks" "value"
  r_BadProgram : ∀ P : Program, RaiseIn P w K mg "BadProgram" "error"
  r_BadText : ∀ P : Program, RaiseIn P w K mg "BadText" "place"
  r_BarThere : ∀ P : Program, RaiseIn P w K mg "BarThere" "place"
  r_Clash : ∀ P : Program, RaiseIn P w K mg "Clash" "steps"
  r_NoBar : ∀ P : Program, RaiseIn P w K mg "NoBar" "place"
  r_NoMaking : ∀ P : Program, RaiseIn P w K mg "NoMaking" "place"
  r_NoPin : ∀ P : Program, RaiseIn P w K mg "NoPin" "place"
  r_NoPlace : ∀ P : Program, RaiseIn P w K mg "NoPlace" "place"
  r_NoTest : ∀ P : Program, RaiseIn P w K mg "NoTest" "place"
  r_NoVersion : ∀ P : Program, RaiseIn P w K mg "NoVersion" "value"
  r_Rejected : ∀ P : Program, RaiseIn P w K mg "Rejected" "index"
  ki_BadBars : IsI K mg (.ref (He.ga K "BadBars")) ki_BadBars
  ki_BadEdit : IsI K mg (.ref (He.ga K "BadEdit")) ki_BadEdit
  ki_BadEdits : IsI K mg (.ref (He.ga K "BadEdits")) ki_BadEdits
  ki_BadInputs : IsI K mg (.ref (He.ga K "BadInputs")) ki_BadInputs
  ki_BadPicks : IsI K mg (.ref (He.ga K "BadPicks")) ki_BadPicks
  ki_BadProgram : IsI K mg (.ref (He.ga K "BadProgram")) ki_BadProgram
  ki_BadText : IsI K mg (.ref (He.ga K "BadText")) ki_BadText
  ki_BarThere : IsI K mg (.ref (He.ga K "BarThere")) ki_BarThere
  ki_Busy : IsI K mg (.ref (He.ga K "Busy")) ki_Busy
  ki_Clash : IsI K mg (.ref (He.ga K "Clash")) ki_Clash
  ki_LookupError : IsI K mg (.type "LookupError") ki_LookupError
  ki_MaybeError : IsI K mg (.ref (He.ga K "MaybeError")) ki_MaybeError
  ki_NoBar : IsI K mg (.ref (He.ga K "NoBar")) ki_NoBar
  ki_NoBars : IsI K mg (.ref (He.ga K "NoBars")) ki_NoBars
  ki_NoMaking : IsI K mg (.ref (He.ga K "NoMaking")) ki_NoMaking
  ki_NoPin : IsI K mg (.ref (He.ga K "NoPin")) ki_NoPin
  ki_NoPlace : IsI K mg (.ref (He.ga K "NoPlace")) ki_NoPlace
  ki_NoTest : IsI K mg (.ref (He.ga K "NoTest")) ki_NoTest
  ki_NoVersion : IsI K mg (.ref (He.ga K "NoVersion")) ki_NoVersion
  ki_NothingToUndo : IsI K mg (.ref (He.ga K "NothingToUndo")) ki_NothingToUndo
  ki_Rejected : IsI K mg (.ref (He.ga K "Rejected")) ki_Rejected
  ki_TooMany : IsI K mg (.ref (He.ga K "TooMany")) ki_TooMany
  ki_TooManyEdits : IsI K mg (.ref (He.ga K "TooManyEdits")) ki_TooManyEdits
  ki_Unsure : IsI K mg (.ref (He.ga K "Unsure")) ki_Unsure
  ki_ValueError : IsI K mg (.type "ValueError") ki_ValueError
  xf_error : XfK K mg xf_error "error"
  xf_index : XfK K mg xf_index "index"
  xf_inputs : XfK K mg xf_inputs "inputs"
  xf_picks : XfK K mg xf_picks "picks"
  xf_place : XfK K mg xf_place "place"
  xf_steps : XfK K mg xf_steps "steps"
  xf_value : XfK K mg xf_value "value"
  e_BadEdits : ∀ P : Program, ErrIn P w K mg "BadEdits" []
  e_Busy : ∀ P : Program, ErrIn P w K mg "Busy" []
  e_MaybeError : ∀ P : Program, ErrIn P w K mg "MaybeError" []
  e_NoBars : ∀ P : Program, ErrIn P w K mg "NoBars" []
  e_NothingToUndo : ∀ P : Program, ErrIn P w K mg "NothingToUndo" []
  e_TooMany : ∀ P : Program, ErrIn P w K mg "TooMany" []
  e_TooManyEdits : ∀ P : Program, ErrIn P w K mg "TooManyEdits" []
  e_Unsure : ∀ P : Program, ErrIn P w K mg "Unsure" ["inputs", "picks"]
  g_BadBars : mg "BadBars" = some (.ref (He.ga K "BadBars"))
  g_BadEdit : mg "BadEdit" = some (.ref (He.ga K "BadEdit"))
  g_BadEdits : mg "BadEdits" = some (.ref (He.ga K "BadEdits"))
  g_BadInputs : mg "BadInputs" = some (.ref (He.ga K "BadInputs"))
  g_BadPicks : mg "BadPicks" = some (.ref (He.ga K "BadPicks"))
  g_BadProgram : mg "BadProgram" = some (.ref (He.ga K "BadProgram"))
  g_BadText : mg "BadText" = some (.ref (He.ga K "BadText"))
  g_BarThere : mg "BarThere" = some (.ref (He.ga K "BarThere"))
  g_Busy : mg "Busy" = some (.ref (He.ga K "Busy"))
  g_Clash : mg "Clash" = some (.ref (He.ga K "Clash"))
  g_MaybeError : mg "MaybeError" = some (.ref (He.ga K "MaybeError"))
  g_NoBar : mg "NoBar" = some (.ref (He.ga K "NoBar"))
  g_NoBars : mg "NoBars" = some (.ref (He.ga K "NoBars"))
  g_NoMaking : mg "NoMaking" = some (.ref (He.ga K "NoMaking"))
  g_NoPin : mg "NoPin" = some (.ref (He.ga K "NoPin"))
  g_NoPlace : mg "NoPlace" = some (.ref (He.ga K "NoPlace"))
  g_NoTest : mg "NoTest" = some (.ref (He.ga K "NoTest"))
  g_NoVersion : mg "NoVersion" = some (.ref (He.ga K "NoVersion"))
  g_NothingToUndo : mg "NothingToUndo" = some (.ref (He.ga K "NothingToUndo"))
  g_Rejected : mg "Rejected" = some (.ref (He.ga K "Rejected"))
  g_TooMany : mg "TooMany" = some (.ref (He.ga K "TooMany"))
  g_TooManyEdits : mg "TooManyEdits" = some (.ref (He.ga K "TooManyEdits"))
  g_Unsure : mg "Unsure" = some (.ref (He.ga K "Unsure"))
section
variable {P : Program} {w : World} {K : PySem.W.Frag} {mg : Str → Option Value} {base : Heap}
theorem sc__law_deck : FnScope ["_law_script", "_law_cell"] ["_law_script"] (defScope (top 48)) := ⟨rfl, rfl, rfl, by decide +kernel, rfl, by decide +kernel, by decide +kernel⟩
theorem ok__law_deck (h : Fc P w K mg) : FnIn P w K mg base "_law_deck" 1 c__law_deck := by
    obtain ⟨f, fd, F, hm⟩ := h.d__law_deck
    refine ⟨f, fd, _, rf_fn (n := 2) (np := 1) (j := 0) (m := m_deck) F sc__law_deck rfl rfl (fun cdv A outer s H E hr tk pss => ?_), hm, F.kp, F.bindsN (fun _ _ _ _ _ _ us hl => match us, hl with | [_], _ => rfl)⟩
    have sc := sc__law_deck
    exact (sb_cons (ss_ret (se_nw (sf_lst (sae_cons (se_nw (sf_lc rfl sc.nd (si_val md_e (SE.pk (se_sl (sp_var (pv 0)) so_none (so_some se_int)))) (blkOk_by (own := [("_law_cell", 1)]) (by rfl)) (fun _ _ _ _ _ => (sg_name (pg_name sc.nd rfl (by first | exact Or.inl rfl | exact Or.inr rfl)))) (fun _ _ _ _ _ => sts_nil) (fun _ _ _ _ _ => (se_callB bAbs_ok (by rfl) h.b_abs (by rfl) (sa_cons (sp_var (pv 1)) sa_nil rfl) rfl (by decide) (by decide))) (by decide) rfl)) (sae_cons se_int sae_nil rfl) rfl)))) sb_nil)
theorem sc__law_same : FnScope ["_law_one_here", "_law_other", "_law_a", "_law_b"] ["_law_one_here", "_law_other"] (defScope (top 51)) := ⟨rfl, rfl, rfl, by decide +kernel, rfl, by decide +kernel, by decide +kernel⟩
theorem ok__law_same (h : Fc P w K mg) : ∀ n, FnIn P w K mg base "_law_same" (1 + n) (c__law_same n)
  | 0 => by
    obtain ⟨f, fd, F, hm⟩ := h.d__law_same
    refine ⟨f, fd, _, rf_fn (n := 4) (np := 2) (j := 0) (m := sNo) F sc__law_same rfl rfl (fun cdv A outer s H E hr tk pss => ?_), hm, F.kp, F.bindsN (fun _ _ _ _ _ _ us hl => match us, hl with | [_, _], _ => rfl)⟩
    have sc := sc__law_same
    exact sb_no
  | n + 1 => by
    have self := ok__law_same h n
    obtain ⟨f, fd, F, hm⟩ := h.d__law_same
    refine ⟨f, fd, _, rf_fn (n := 4) (np := 2) (j := 1 + n) (m := m__law_same (c__law_same n)) F sc__law_same rfl rfl (fun cdv A outer s H E hr tk pss => ?_), hm, F.kp, F.bindsN (fun _ _ _ _ _ _ us hl => match us, hl with | [_, _], _ => rfl)⟩
    have sc := sc__law_same
    exact (sb_cons (ss_if (PW.pt (sw_or (st_truth (SE.pk (se_callB bIsI_ok (by rfl) h.b_isinstance (by rfl) (sa_cons (sp_var (pv 0)) (sa_cons (SE.pk (se_tup (sae_cons (se_ty rfl h.b_tuple rfl (by decide) (by decide)) (sae_cons (se_ty rfl h.b_list rfl (by decide) (by decide)) sae_nil rfl) rfl))) sa_nil rfl) rfl) rfl (by decide) (by decide))) rfl) (sw_or1 (st_truth (SE.pk (se_callB bIsI_ok (by rfl) h.b_isinstance (by rfl) (sa_cons (sp_var (pv 1)) (sa_cons (SE.pk (se_tup (sae_cons (se_ty rfl h.b_tuple rfl (by decide) (by decide)) (sae_cons (se_ty rfl h.b_list rfl (by decide) (by decide)) sae_nil rfl) rfl))) sa_nil rfl) rfl) rfl (by decide) (by decide))) rfl)))) (sb_cons (ss_if (PW.pt (sw_or (st_cmp (cNe_ok hr.units) (SE.pk (se_callB bIsI_ok (by rfl) h.b_isinstance (by rfl) (sa_cons (sp_var (pv 0)) (sa_cons (SE.pk (se_ty rfl h.b_tuple rfl (by decide) (by decide))) sa_nil rfl) rfl) rfl (by decide) (by decide))) (SE.pk (se_callB bIsI_ok (by rfl) h.b_isinstance (by rfl) (sa_cons (sp_var (pv 1)) (sa_cons (SE.pk (se_ty rfl h.b_tuple rfl (by decide) (by decide))) sa_nil rfl) rfl) rfl (by decide) (by decide))) rfl) (sw_or1 (st_cmp (cNe_ok hr.units) (SE.pk (se_callB bIsI_ok (by rfl) h.b_isinstance (by rfl) (sa_cons (sp_var (pv 0)) (sa_cons (SE.pk (se_ty rfl h.b_list rfl (by decide) (by decide))) sa_nil rfl) rfl) rfl (by decide) (by decide))) (SE.pk (se_callB bIsI_ok (by rfl) h.b_isinstance (by rfl) (sa_cons (sp_var (pv 1)) (sa_cons (SE.pk (se_ty rfl h.b_list rfl (by decide) (by decide))) sa_nil rfl) rfl) rfl (by decide) (by decide))) rfl)))) (sb_cons (ss_ret se_bl) sb_nil) sb_nil) (sb_cons (ss_ret (se_and (se_cmp (cEq_ok hr.units) (SE.pk (se_callB bLen_ok (by rfl) h.b_len (by rfl) (sa_cons (sp_var (pv 0)) sa_nil rfl) rfl (by decide) (by decide))) (SE.pk (se_callB bLen_ok (by rfl) h.b_len (by rfl) (sa_cons (sp_var (pv 1)) sa_nil rfl) rfl (by decide) (by decide))) rfl) (se_one (se_callB (bAll_ok rfl) (by rfl) h.b_all (by rfl) (sa_cons (SE.pk (se_fz (sf_lc rfl sc.nd (si_zipS md_e (by rfl) h.b_zip (SA.q (sa_cons (sp_var (pv 0)) (sa_cons (sp_var (pv 1)) sa_nil rfl) rfl)) rfl rfl) (blkOk_by (own := [("_law_a", 2), ("_law_b", 3)]) (by rfl)) (fun _ _ _ _ _ => (sg_tup rfl (sgs_cons (sg_name (pg_name sc.nd rfl (by first | exact Or.inl rfl | exact Or.inr rfl))) (sgs_cons (sg_name (pg_name sc.nd rfl (by first | exact Or.inl rfl | exact Or.inr rfl))) sgs_nil rfl) rfl) rfl rfl)) (fun _ _ _ _ _ => sts_nil) (fun _ _ _ _ _ => (se_call (FnIn.at self hr (by omega) rfl rfl rfl rfl rfl) (by rfl) takes_no (sae_cons (se_var (pv 2)) (sae_cons (se_var (pv 3)) sae_nil rfl) rfl) rfl (by decide))) (by decide) rfl))) sa_nil rfl) rfl (by decide) (by decide))))) sb_nil)) sb_nil) (sb_cons (ss_if (PW.pt (sw_or (st_truth (SE.pk (se_callB bIsI_ok (by rfl) h.b_isinstance (by rfl) (sa_cons (sp_var (pv 0)) (sa_cons (SE.pk (se_ty rfl h.b_bool rfl (by decide) (by decide))) sa_nil rfl) rfl) rfl (by decide) (by decide))) rfl) (sw_or1 (st_truth (SE.pk (se_callB bIsI_ok (by rfl) h.b_isinstance (by rfl) (sa_cons (sp_var (pv 1)) (sa_cons (SE.pk (se_ty rfl h.b_bool rfl (by decide) (by decide))) sa_nil rfl) rfl) rfl (by decide) (by decide))) rfl)))) (sb_cons (ss_ret (se_and (se_callB bIsI_ok (by rfl) h.b_isinstance (by rfl) (sa_cons (sp_var (pv 0)) (sa_cons (SE.pk (se_ty rfl h.b_bool rfl (by decide) (by decide))) sa_nil rfl) rfl) rfl (by decide) (by decide)) (se_and (se_callB bIsI_ok (by rfl) h.b_isinstance (by rfl) (sa_cons (sp_var (pv 1)) (sa_cons (SE.pk (se_ty rfl h.b_bool rfl (by decide) (by decide))) sa_nil rfl) rfl) rfl (by decide) (by decide)) (se_one (se_cmp (cEq_ok hr.units) (sp_var (pv 0)) (sp_var (pv 1)) rfl))))) sb_nil) sb_nil) (sb_cons (ss_if (PW.pt (sw_or (st_truth (SE.pk (se_callB bIsI_ok (by rfl) h.b_isinstance (by rfl) (sa_cons (sp_var (pv 0)) (sa_cons (SE.pk (se_ty rfl h.b_int rfl (by decide) (by decide))) sa_nil rfl) rfl) rfl (by decide) (by decide))) rfl) (sw_or1 (st_truth (SE.pk (se_callB bIsI_ok (by rfl) h.b_isinstance (by rfl) (sa_cons (sp_var (pv 1)) (sa_cons (SE.pk (se_ty rfl h.b_int rfl (by decide) (by decide))) sa_nil rfl) rfl) rfl (by decide) (by decide))) rfl)))) (sb_cons (ss_ret (se_and (se_callB bIsI_ok (by rfl) h.b_isinstance (by rfl) (sa_cons (sp_var (pv 0)) (sa_cons (SE.pk (se_ty rfl h.b_int rfl (by decide) (by decide))) sa_nil rfl) rfl) rfl (by decide) (by decide)) (se_and (se_callB bIsI_ok (by rfl) h.b_isinstance (by rfl) (sa_cons (sp_var (pv 1)) (sa_cons (SE.pk (se_ty rfl h.b_int rfl (by decide) (by decide))) sa_nil rfl) rfl) rfl (by decide) (by decide)) (se_one (se_cmp (cEq_ok hr.units) (sp_var (pv 0)) (sp_var (pv 1)) rfl))))) sb_nil) sb_nil) (sb_cons (ss_if (PW.pt (sw_or (st_truth (SE.pk (se_callB bIsI_ok (by rfl) h.b_isinstance (by rfl) (sa_cons (sp_var (pv 0)) (sa_cons (SE.pk (se_ty rfl h.b_str rfl (by decide) (by decide))) sa_nil rfl) rfl) rfl (by decide) (by decide))) rfl) (sw_or1 (st_truth (SE.pk (se_callB bIsI_ok (by rfl) h.b_isinstance (by rfl) (sa_cons (sp_var (pv 1)) (sa_cons (SE.pk (se_ty rfl h.b_str rfl (by decide) (by decide))) sa_nil rfl) rfl) rfl (by decide) (by decide))) rfl)))) (sb_cons (ss_ret (se_and (se_callB bIsI_ok (by rfl) h.b_isinstance (by rfl) (sa_cons (sp_var (pv 0)) (sa_cons (SE.pk (se_ty rfl h.b_str rfl (by decide) (by decide))) sa_nil rfl) rfl) rfl (by decide) (by decide)) (se_and (se_callB bIsI_ok (by rfl) h.b_isinstance (by rfl) (sa_cons (sp_var (pv 1)) (sa_cons (SE.pk (se_ty rfl h.b_str rfl (by decide) (by decide))) sa_nil rfl) rfl) rfl (by decide) (by decide)) (se_one (se_cmp (cEq_ok hr.units) (sp_var (pv 0)) (sp_var (pv 1)) rfl))))) sb_nil) sb_nil) (sb_cons (ss_ret (se_and (se_cmp cIs_ok (sp_var (pv 0)) (SE.pk se_non) rfl) (se_one (se_cmp cIs_ok (sp_var (pv 1)) (SE.pk se_non) rfl)))) sb_nil)))))
theorem sc__law_bounds_right : FnScope ["_law_found", "_law_due"] [] (defScope (top 56)) := ⟨rfl, rfl, rfl, by decide +kernel, rfl, by decide +kernel, by decide +kernel⟩
theorem ok__law_bounds_right (h : Fc P w K mg) : FnIn P w K mg base "_law_bounds_right" 42 c__law_bounds_right := by
    obtain ⟨f, fd, F, hm⟩ := h.d__law_bounds_right
    refine ⟨f, fd, _, rf_fn (n := 2) (np := 0) (j := 41) (m := m__law_bounds_right) F sc__law_bounds_right rfl rfl (fun cdv A outer s H E hr tk pss => ?_), hm, F.kp, F.bindsN (fun _ _ _ _ _ _ us hl => match us, hl with | [], _ => rfl)⟩
    have sc := sc__law_bounds_right
    exact (sb_cons (ss_set sc.nd rfl (by first | exact Or.inl rfl | exact Or.inr rfl) rfl (se_fz (sf_lst (sae_cons (se_con h.k_MAX_NAME rfl (by decide)) (sae_cons (se_con h.k_MAX_WORD rfl (by decide)) (sae_cons (se_con h.k_MAX_DIGITS rfl (by decide)) (sae_cons (se_con h.k_MAX_PARTS rfl (by decide)) (sae_cons (se_con h.k_MAX_INDEX rfl (by decide)) (sae_cons (se_con h.k_MAX_NUMBER rfl (by decide)) (sae_cons (se_con h.k_MAX_GIVENS rfl (by decide)) (sae_cons (se_con h.k_MAX_TIMES rfl (by decide)) (sae_cons (se_con h.k_MAX_NEST rfl (by decide)) sae_nil rfl) rfl) rfl) rfl) rfl) rfl) rfl) rfl) rfl))) rfl) (sb_cons (ss_set sc.nd rfl (by first | exact Or.inl rfl | exact Or.inr rfl) rfl (se_bin oAdd_ok (sp_var (pv 0)) (SE.pk (se_fz (sf_lst (sae_cons (se_con h.k_MAX_PLACES rfl (by decide)) (sae_cons (se_con h.k_MAX_WEIGHT rfl (by decide)) (sae_cons (se_con h.k_MAX_WORDS rfl (by decide)) (sae_cons (se_con h.k_MAX_SIZE rfl (by decide)) (sae_cons (se_con h.k_MAX_ROW rfl (by decide)) (sae_cons (se_con h.k_MAX_QUESTIONS rfl (by decide)) (sae_cons (se_con h.k_MAX_THINGS rfl (by decide)) (sae_cons (se_con h.k_MAX_WAYS rfl (by decide)) sae_nil rfl) rfl) rfl) rfl) rfl) rfl) rfl) rfl))))) rfl) (sb_cons (ss_set sc.nd rfl (by first | exact Or.inl rfl | exact Or.inr rfl) rfl (se_bin oAdd_ok (sp_var (pv 0)) (SE.pk (se_fz (sf_lst (sae_cons (se_con h.k_MAX_ANSWERS rfl (by decide)) (sae_cons (se_con h.k_MAX_BARS rfl (by decide)) (sae_cons (se_con h.k_MAX_MENDS rfl (by decide)) (sae_cons (se_con h.k_MAX_MEND_PLACES rfl (by decide)) (sae_cons (se_con h.k_MAX_EDITS rfl (by decide)) (sae_cons (se_con h.k_BATCH rfl (by decide)) sae_nil rfl) rfl) rfl) rfl) rfl) rfl))))) rfl) (sb_cons (ss_set sc.nd rfl (by first | exact Or.inl rfl | exact Or.inr rfl) rfl (se_fz (sf_lst (sae_cons se_int (sae_cons se_int (sae_cons se_int (sae_cons se_int (sae_cons se_int (sae_cons (se_bin oPow_ok (SE.pk se_int) (SE.pk se_int)) (sae_cons se_int (sae_cons se_int (sae_cons se_int (sae_cons se_int (sae_cons se_int (sae_cons se_int (sae_cons se_int (sae_cons se_int (sae_cons se_int (sae_cons se_int (sae_cons se_int (sae_cons se_int (sae_cons se_int (sae_cons se_int (sae_cons se_int (sae_cons se_int (sae_cons se_int sae_nil rfl) rfl) rfl) rfl) rfl) rfl) rfl) rfl) rfl) rfl) rfl) rfl) rfl) rfl) rfl) rfl) rfl) rfl) rfl) rfl) rfl) rfl) rfl))) rfl) (sb_cons (ss_ret (se_call (FnIn.at ((ok__law_same h 40)) hr (by omega) rfl rfl rfl rfl rfl) (by rfl) tk (sae_cons (se_var (pv 0)) (sae_cons (se_var (pv 1)) sae_nil rfl) rfl) rfl (by decide))) sb_nil)))))
theorem sc__law_draw : FnScope ["_law_deck_here", "_law_many", "_law_place", "_law_cell", "_law_mixed"] ["_law_deck_here", "_law_many"] (defScope (top 49)) := ⟨rfl, rfl, rfl, by decide +kernel, rfl, by decide +kernel, by decide +kernel⟩
theorem ok__law_draw (h : Fc P w K mg) : FnIn P w K mg base "_law_draw" 1 c__law_draw := by
    obtain ⟨f, fd, F, hm⟩ := h.d__law_draw
    refine ⟨f, fd, _, rf_fn (n := 5) (np := 2) (j := 0) (m := m_draw1) F sc__law_draw rfl rfl (fun cdv A outer s H E hr tk pss => ?_), hm, F.kp, F.bindsN (fun _ _ _ _ _ _ us hl => match us, hl with | [_, _], _ => rfl)⟩
    have sc := sc__law_draw
    exact (sb_cons (ss_putO (se_var (pv 0)) se_int (se_bin oAdd_ok (SE.pk (se_ix (sp_var (pv 0)) (SE.pk se_int) rfl)) (SE.pk se_int)) rfl (fun _ => rfl)) (sb_cons (ss_set sc.nd rfl (by first | exact Or.inl rfl | exact Or.inr rfl) rfl (se_bin oMod_ok (SE.pk (se_callT bInt_ok (by rfl) h.b_int (by rfl) (sa_cons (SE.pk (se_ix (sp_var (pv 0)) (SE.pk se_int) rfl)) sa_nil rfl) rfl (by decide) (by decide))) (SE.pk (se_callB (bMax2_ok (by rfl)) (by rfl) h.b_max (by rfl) (sa_cons (SE.pk se_int) (sa_cons (SE.pk (se_callB bLen_ok (by rfl) h.b_len (by rfl) (sa_cons (SE.pk (se_ix (sp_var (pv 0)) (SE.pk se_int) rfl)) sa_nil rfl) rfl (by decide) (by decide))) sa_nil rfl) rfl) rfl (by decide) (by decide)))) rfl) (sb_cons (ss_set sc.nd rfl (by first | exact Or.inl rfl | exact Or.inr rfl) rfl (se_ix (SE.pk (se_bin oAdd_ok (SE.pk (se_ix (sp_var (pv 0)) (SE.pk se_int) rfl)) (SE.pk (se_fz (sf_lst (sae_cons se_int sae_nil rfl)))))) (sp_var (pv 2)) rfl) rfl) (sb_cons (ss_if (st_cmp cGe_ok (sp_var (pv 3)) (SE.pk (se_bin oPow_ok (SE.pk se_int) (SE.pk se_int))) rfl) (sb_cons (ss_putO (se_ix (sp_var (pv 0)) (SE.pk se_int) rfl) (se_var (pv 2)) (se_bin oFdiv_ok (sp_var (pv 3)) (sp_var (pv 1))) rfl (fun _ => rfl)) (sb_cons (ss_ret (se_bin oMod_ok (SE.pk (se_callT bInt_ok (by rfl) h.b_int (by rfl) (sa_cons (sp_var (pv 3)) sa_nil rfl) rfl (by decide) (by decide))) (sp_var (pv 1)))) sb_nil)) sb_nil) (sb_cons (ss_set sc.nd rfl (by first | exact Or.inl rfl | exact Or.inr rfl) rfl (se_bin oPow_ok (SE.pk (se_bin oAdd_ok (SE.pk (se_bin oAdd_ok (SE.pk (se_bin oMod_ok (SE.pk (se_callT bInt_ok (by rfl) h.b_int (by rfl) (sa_cons (sp_var (pv 3)) sa_nil rfl) rfl (by decide) (by decide))) (SE.pk se_int))) (SE.pk (se_bin oMul_ok (SE.pk se_int) (SE.pk (se_ix (sp_var (pv 0)) (SE.pk se_int) rfl)))))) (SE.pk se_int))) (SE.pk se_int)) rfl) (sb_cons (ss_ret (se_bin oMod_ok (SE.pk (se_callT bInt_ok (by rfl) h.b_int (by rfl) (sa_cons (SE.pk (se_bin oMod_ok (SE.pk (se_callT bInt_ok (by rfl) h.b_int (by rfl) (sa_cons (sp_var (pv 4)) sa_nil rfl) rfl (by decide) (by decide))) (SE.pk se_int))) sa_nil rfl) rfl (by decide) (by decide))) (sp_var (pv 1)))) sb_nil))))))
theorem sc__law_one : FnScope ["_law_deck_here", "_law_items"] ["_law_deck_here", "_law_items"] (defScope (top 50)) := ⟨rfl, rfl, rfl, by decide +kernel, rfl, by decide +kernel, by decide +kernel⟩
theorem ok__law_one (h : Fc P w K mg) : FnIn P w K mg base "_law_one" 2 c__law_one := by
    obtain ⟨f, fd, F, hm⟩ := h.d__law_one
    refine ⟨f, fd, _, rf_fn (n := 2) (np := 2) (j := 1) (m := m_one) F sc__law_one rfl rfl (fun cdv A outer s H E hr tk pss => ?_), hm, F.kp, F.bindsN (fun _ _ _ _ _ _ us hl => match us, hl with | [_, _], _ => rfl)⟩
    have sc := sc__law_one
    exact (sb_cons (ss_ret (se_ix (sp_var (pv 1)) (SE.pk (se_call (FnIn.at (ok__law_draw h) hr (by omega) rfl rfl rfl rfl rfl) (by rfl) tk (sae_cons (se_var (pv 0)) (sae_cons (se_callB bLen_ok (by rfl) h.b_len (by rfl) (sa_cons (sp_var (pv 1)) sa_nil rfl) rfl (by decide) (by decide)) sae_nil rfl) rfl) rfl (by decide))) rfl)) sb_nil)
theorem sc__law_value : FnScope ["_law_deck_here", "_law_many", "_law_values"] ["_law_deck_here"] (defScope (top 52)) := ⟨rfl, rfl, rfl, by decide +kernel, rfl, by decide +kernel, by decide +kernel⟩
theorem ok__law_value (h : Fc P w K mg) : FnIn P w K mg base "_law_value" 3 c__law_value := by
    obtain ⟨f, fd, F, hm⟩ := h.d__law_value
    refine ⟨f, fd, _, rf_fn (n := 3) (np := 1) (j := 2) (m := m__law_value) F sc__law_value rfl rfl (fun cdv A outer s H E hr tk pss => ?_), hm, F.kp, F.bindsN (fun _ _ _ _ _ _ us hl => match us, hl with | [_], _ => rfl)⟩
    have sc := sc__law_value
    exact (sb_cons (ss_set sc.nd rfl (by first | exact Or.inl rfl | exact Or.inr rfl) rfl (se_bin oSub_ok (SE.pk (se_call (FnIn.at (ok__law_draw h) hr (by omega) rfl rfl rfl rfl rfl) (by rfl) tk (sae_cons (se_var (pv 0)) (sae_cons (se_bin oPow_ok (SE.pk se_int) (SE.pk se_int)) sae_nil rfl) rfl) rfl (by decide))) (SE.pk (se_bin oMul_ok (SE.pk se_int) (SE.pk (se_bin oPow_ok (SE.pk se_int) (SE.pk se_int)))))) rfl) (sb_cons (ss_set sc.nd rfl (by first | exact Or.inl rfl | exact Or.inr rfl) rfl (se_fz (sf_lst (sae_cons se_non (sae_cons se_bl (sae_cons se_bl (sae_cons se_int (sae_cons se_int (sae_cons (se_var (pv 1)) (sae_cons (se_callT bStr_ok (by rfl) h.b_str (by rfl) (sa_cons (sp_var (pv 1)) sa_nil rfl) rfl (by decide) (by decide)) (sae_cons (se_str (l := []) (by decide +kernel)) (sae_cons (se_tup sae_nil) (sae_cons (se_tup (sae_cons (se_var (pv 1)) sae_nil rfl)) (sae_cons (se_fz (sf_lst (sae_cons (se_var (pv 1)) sae_nil rfl))) (sae_cons (se_tup (sae_cons se_non (sae_cons (se_str (l := [112, 108, 97, 99, 101, 115]) (by decide +kernel)) sae_nil rfl) rfl)) (sae_cons (se_tup (sae_cons (se_tup (sae_cons se_int sae_nil rfl)) (sae_cons se_bl sae_nil rfl) rfl)) sae_nil rfl) rfl) rfl) rfl) rfl) rfl) rfl) rfl) rfl) rfl) rfl) rfl) rfl))) rfl) (sb_cons (ss_ret (se_call (FnIn.at (ok__law_one h) hr (by omega) rfl rfl rfl rfl rfl) (by rfl) tk (sae_cons (se_var (pv 0)) (sae_cons (se_var (pv 2)) sae_nil rfl) rfl) rfl (by decide))) sb_nil)))
theorem sc__law_kinds : FnScope ["_law_e", "_law_found"] ["_law_e"] (defScope (top 53)) := ⟨rfl, rfl, rfl, by decide +kernel, rfl, by decide +kernel, by decide +kernel⟩
theorem ok__law_kinds (h : Fc P w K mg) : FnIn P w K mg base "_law_kinds" 1 c__law_kinds := by
    obtain ⟨f, fd, F, hm⟩ := h.d__law_kinds
    refine ⟨f, fd, _, rf_fn (n := 2) (np := 1) (j := 0) (m := m__law_kinds) F sc__law_kinds rfl rfl (fun cdv A outer s H E hr tk pss => ?_), hm, F.kp, F.bindsN (fun _ _ _ _ _ _ us hl => match us, hl with | [_], _ => rfl)⟩
    have sc := sc__law_kinds
    exact (sb_cons (ss_set sc.nd rfl (by first | exact Or.inl rfl | exact Or.inr rfl) rfl (se_fz (sf_lst (sae_cons (se_isD h.ki_TooMany (by rfl) h.b_isinstance (se_var (pv 0)) (pe_glob (by rfl) h.g_TooMany (v := .ref (He.ga K "TooMany")) rfl (by decide)) (fun _ r => r) rfl rfl) (sae_cons (se_isD h.ki_Clash (by rfl) h.b_isinstance (se_var (pv 0)) (pe_glob (by rfl) h.g_Clash (v := .ref (He.ga K "Clash")) rfl (by decide)) (fun _ r => r) rfl rfl) (sae_cons (se_isD h.ki_BadText (by rfl) h.b_isinstance (se_var (pv 0)) (pe_glob (by rfl) h.g_BadText (v := .ref (He.ga K "BadText")) rfl (by decide)) (fun _ r => r) rfl rfl) (sae_cons (se_isD h.ki_BadProgram (by rfl) h.b_isinstance (se_var (pv 0)) (pe_glob (by rfl) h.g_BadProgram (v := .ref (He.ga K "BadProgram")) rfl (by decide)) (fun _ r => r) rfl rfl) sae_nil rfl) rfl) rfl) rfl))) rfl) (sb_cons (ss_set sc.nd rfl (by first | exact Or.inl rfl | exact Or.inr rfl) rfl (se_bin oAdd_ok (sp_var (pv 1)) (SE.pk (se_fz (sf_lst (sae_cons (se_isD h.ki_BadBars (by rfl) h.b_isinstance (se_var (pv 0)) (pe_glob (by rfl) h.g_BadBars (v := .ref (He.ga K "BadBars")) rfl (by decide)) (fun _ r => r) rfl rfl) (sae_cons (se_isD h.ki_BadInputs (by rfl) h.b_isinstance (se_var (pv 0)) (pe_glob (by rfl) h.g_BadInputs (v := .ref (He.ga K "BadInputs")) rfl (by decide)) (fun _ r => r) rfl rfl) (sae_cons (se_isD h.ki_BadPicks (by rfl) h.b_isinstance (se_var (pv 0)) (pe_glob (by rfl) h.g_BadPicks (v := .ref (He.ga K "BadPicks")) rfl (by decide)) (fun _ r => r) rfl rfl) (sae_cons (se_isD h.ki_NoTest (by rfl) h.b_isinstance (se_var (pv 0)) (pe_glob (by rfl) h.g_NoTest (v := .ref (He.ga K "NoTest")) rfl (by decide)) (fun _ r => r) rfl rfl) sae_nil rfl) rfl) rfl) rfl))))) rfl) (sb_cons (ss_set sc.nd rfl (by first | exact Or.inl rfl | exact Or.inr rfl) rfl (se_bin oAdd_ok (sp_var (pv 1)) (SE.pk (se_fz (sf_lst (sae_cons (se_isD h.ki_NoPin (by rfl) h.b_isinstance (se_var (pv 0)) (pe_glob (by rfl) h.g_NoPin (v := .ref (He.ga K "NoPin")) rfl (by decide)) (fun _ r => r) rfl rfl) (sae_cons (se_isD h.ki_NoMaking (by rfl) h.b_isinstance (se_var (pv 0)) (pe_glob (by rfl) h.g_NoMaking (v := .ref (He.ga K "NoMaking")) rfl (by decide)) (fun _ r => r) rfl rfl) (sae_cons (se_isD h.ki_BarThere (by rfl) h.b_isinstance (se_var (pv 0)) (pe_glob (by rfl) h.g_BarThere (v := .ref (He.ga K "BarThere")) rfl (by decide)) (fun _ r => r) rfl rfl) (sae_cons (se_isD h.ki_NoBar (by rfl) h.b_isinstance (se_var (pv 0)) (pe_glob (by rfl) h.g_NoBar (v := .ref (He.ga K "NoBar")) rfl (by decide)) (fun _ r => r) rfl rfl) sae_nil rfl) rfl) rfl) rfl))))) rfl) (sb_cons (ss_set sc.nd rfl (by first | exact Or.inl rfl | exact Or.inr rfl) rfl (se_bin oAdd_ok (sp_var (pv 1)) (SE.pk (se_fz (sf_lst (sae_cons (se_isD h.ki_NoBars (by rfl) h.b_isinstance (se_var (pv 0)) (pe_glob (by rfl) h.g_NoBars (v := .ref (He.ga K "NoBars")) rfl (by decide)) (fun _ r => r) rfl rfl) (sae_cons (se_isD h.ki_Unsure (by rfl) h.b_isinstance (se_var (pv 0)) (pe_glob (by rfl) h.g_Unsure (v := .ref (He.ga K "Unsure")) rfl (by decide)) (fun _ r => r) rfl rfl) (sae_cons (se_isD h.ki_Busy (by rfl) h.b_isinstance (se_var (pv 0)) (pe_glob (by rfl) h.g_Busy (v := .ref (He.ga K "Busy")) rfl (by decide)) (fun _ r => r) rfl rfl) (sae_cons (se_isD h.ki_TooManyEdits (by rfl) h.b_isinstance (se_var (pv 0)) (pe_glob (by rfl) h.g_TooManyEdits (v := .ref (He.ga K "TooManyEdits")) rfl (by decide)) (fun _ r => r) rfl rfl) sae_nil rfl) rfl) rfl) rfl))))) rfl) (sb_cons (ss_set sc.nd rfl (by first | exact Or.inl rfl | exact Or.inr rfl) rfl (se_bin oAdd_ok (sp_var (pv 1)) (SE.pk (se_fz (sf_lst (sae_cons (se_isD h.ki_NothingToUndo (by rfl) h.b_isinstance (se_var (pv 0)) (pe_glob (by rfl) h.g_NothingToUndo (v := .ref (He.ga K "NothingToUndo")) rfl (by decide)) (fun _ r => r) rfl rfl) (sae_cons (se_isD h.ki_BadEdits (by rfl) h.b_isinstance (se_var (pv 0)) (pe_glob (by rfl) h.g_BadEdits (v := .ref (He.ga K "BadEdits")) rfl (by decide)) (fun _ r => r) rfl rfl) (sae_cons (se_isD h.ki_BadEdit (by rfl) h.b_isinstance (se_var (pv 0)) (pe_glob (by rfl) h.g_BadEdit (v := .ref (He.ga K "BadEdit")) rfl (by decide)) (fun _ r => r) rfl rfl) sae_nil rfl) rfl) rfl))))) rfl) (sb_cons (ss_ret (se_bin oAdd_ok (sp_var (pv 1)) (SE.pk (se_fz (sf_lst (sae_cons (se_isD h.ki_Rejected (by rfl) h.b_isinstance (se_var (pv 0)) (pe_glob (by rfl) h.g_Rejected (v := .ref (He.ga K "Rejected")) rfl (by decide)) (fun _ r => r) rfl rfl) sae_nil rfl)))))) sb_nil))))))
theorem sc__law_kinds_right : FnScope ["_law_a", "_law_some", "_law_k", "_law_j", "_law_e"] ["_law_a"] (defScope (top 54)) := ⟨rfl, rfl, rfl, by decide +kernel, rfl, by decide +kernel, by decide +kernel⟩
theorem ok__law_kinds_right (h : Fc P w K mg) : FnIn P w K mg base "_law_kinds_right" 2 c__law_kinds_right := by
    obtain ⟨f, fd, F, hm⟩ := h.d__law_kinds_right
    refine ⟨f, fd, _, rf_fn (n := 5) (np := 1) (j := 1) (m := m__law_kinds_right) F sc__law_kinds_right rfl rfl (fun cdv A outer s H E hr tk pss => ?_), hm, F.kp, F.bindsN (fun _ _ _ _ _ _ us hl => match us, hl with | [_], _ => rfl)⟩
    have sc := sc__law_kinds_right
    exact (sb_cons (ss_set sc.nd rfl (by first | exact Or.inl rfl | exact Or.inr rfl) rfl (se_fz (sf_lst (sae_cons (se_err0 (k := 0) (h.e_TooMany _) (hr.toRoom.mono (by first | decide | omega)) (by rfl) (by decide)) (sae_cons (se_err (k := 0) (ErrIn.one (h.r_Clash _)) (hr.toRoom.mono (by first | decide | omega)) (by rfl) (sae_cons (se_var (pv 0)) sae_nil rfl) rfl (by decide)) (sae_cons (se_err (k := 0) (ErrIn.one (h.r_BadText _)) (hr.toRoom.mono (by first | decide | omega)) (by rfl) (sae_cons (se_var (pv 0)) sae_nil rfl) rfl (by decide)) (sae_cons (se_err (k := 0) (ErrIn.one (h.r_BadProgram _)) (hr.toRoom.mono (by first | decide | omega)) (by rfl) (sae_cons (se_var (pv 0)) sae_nil rfl) rfl (by decide)) (sae_cons (se_err (k := 0) (ErrIn.one (h.r_BadBars _)) (hr.toRoom.mono (by first | decide | omega)) (by rfl) (sae_cons (se_var (pv 0)) sae_nil rfl) rfl (by decide)) (sae_cons (se_err (k := 0) (ErrIn.one (h.r_BadInputs _)) (hr.toRoom.mono (by first | decide | omega)) (by rfl) (sae_cons (se_var (pv 0)) sae_nil rfl) rfl (by decide)) (sae_cons (se_err (k := 0) (ErrIn.one (h.r_BadPicks _)) (hr.toRoom.mono (by first | decide | omega)) (by rfl) (sae_cons (se_var (pv 0)) sae_nil rfl) rfl (by decide)) (sae_cons (se_err (k := 0) (ErrIn.one (h.r_NoTest _)) (hr.toRoom.mono (by first | decide | omega)) (by rfl) (sae_cons (se_var (pv 0)) sae_nil rfl) rfl (by decide)) (sae_cons (se_err (k := 0) (ErrIn.one (h.r_NoPin _)) (hr.toRoom.mono (by first | decide | omega)) (by rfl) (sae_cons (se_var (pv 0)) sae_nil rfl) rfl (by decide)) sae_nil rfl) rfl) rfl) rfl) rfl) rfl) rfl) rfl) rfl))) rfl) (sb_cons (ss_set sc.nd rfl (by first | exact Or.inl rfl | exact Or.inr rfl) rfl (se_bin oAdd_ok (sp_var (pv 1)) (SE.pk (se_fz (sf_lst (sae_cons (se_err (k := 0) (ErrIn.one (h.r_NoMaking _)) (hr.toRoom.mono (by first | decide | omega)) (by rfl) (sae_cons (se_var (pv 0)) sae_nil rfl) rfl (by decide)) (sae_cons (se_err (k := 0) (ErrIn.one (h.r_BarThere _)) (hr.toRoom.mono (by first | decide | omega)) (by rfl) (sae_cons (se_var (pv 0)) sae_nil rfl) rfl (by decide)) (sae_cons (se_err (k := 0) (ErrIn.one (h.r_NoBar _)) (hr.toRoom.mono (by first | decide | omega)) (by rfl) (sae_cons (se_var (pv 0)) sae_nil rfl) rfl (by decide)) (sae_cons (se_err0 (k := 0) (h.e_NoBars _) (hr.toRoom.mono (by first | decide | omega)) (by rfl) (by decide)) (sae_cons (se_err (k := 0) (h.e_Unsure _) (hr.toRoom.mono (by first | decide | omega)) (by rfl) (sae_cons (se_var (pv 0)) (sae_cons (se_var (pv 0)) sae_nil rfl) rfl) rfl (by decide)) (sae_cons (se_err0 (k := 0) (h.e_Busy _) (hr.toRoom.mono (by first | decide | omega)) (by rfl) (by decide)) (sae_cons (se_err0 (k := 0) (h.e_TooManyEdits _) (hr.toRoom.mono (by first | decide | omega)) (by rfl) (by decide)) (sae_cons (se_err0 (k := 0) (h.e_NothingToUndo _) (hr.toRoom.mono (by first | decide | omega)) (by rfl) (by decide)) sae_nil rfl) rfl) rfl) rfl) rfl) rfl) rfl) rfl))))) rfl) (sb_cons (ss_set sc.nd rfl (by first | exact Or.inl rfl | exact Or.inr rfl) rfl (se_bin oAdd_ok (sp_var (pv 1)) (SE.pk (se_fz (sf_lst (sae_cons (se_err0 (k := 0) (h.e_BadEdits _) (hr.toRoom.mono (by first | decide | omega)) (by rfl) (by decide)) (sae_cons (se_err (k := 0) (ErrIn.one (h.r_BadEdit _)) (hr.toRoom.mono (by first | decide | omega)) (by rfl) (sae_cons (se_var (pv 0)) sae_nil rfl) rfl (by decide)) (sae_cons (se_err (k := 0) (ErrIn.one (h.r_Rejected _)) (hr.toRoom.mono (by first | decide | omega)) (by rfl) (sae_cons (se_var (pv 0)) sae_nil rfl) rfl (by decide)) sae_nil rfl) rfl) rfl))))) rfl) (sb_cons (ss_for pss rfl (si_rng1 md_p (by rfl) h.b_range (SAE.q (sae_cons se_int sae_nil rfl)) rfl) (sg_name (pg_name sc.nd rfl (by first | exact Or.inl rfl | exact Or.inr rfl))) (sb_cons (ss_if (PW.pt (sw_or (st_cmp (cNe_ok hr.units) (SE.pk (se_call (FnIn.at (ok__law_kinds h) hr (by omega) rfl rfl rfl rfl rfl) (by rfl) tk (sae_cons (se_ix (sp_var (pv 1)) (sp_var (pv 2)) rfl) sae_nil rfl) rfl (by decide))) (SE.pk (se_fz (sf_lc rfl sc.nd (si_rng1 md_e (by rfl) h.b_range (SA.q (sa_cons (SE.pk se_int) sa_nil rfl)) rfl) (blkOk_by (own := [("_law_j", 3)]) (by rfl)) (fun _ _ _ _ _ => (sg_name (pg_name sc.nd rfl (by first | exact Or.inl rfl | exact Or.inr rfl)))) (fun _ _ _ _ _ => sts_nil) (fun _ _ _ _ _ => (se_cmp (cEq_ok hr.units) (sp_var (pv 3)) (sp_var (pv 2)) rfl)) (by decide) rfl))) rfl) (sw_or1 (st_truth (SE.pk (se_isD h.ki_LookupError (by rfl) h.b_isinstance (se_ix (sp_var (pv 1)) (sp_var (pv 2)) rfl) (pe_bltn (by rfl) h.b_LookupError (by rfl) (v := .ty "LookupError") rfl (by decide) (by decide)) (fun _ r => r) rfl rfl)) rfl)))) (sb_cons (ss_ret se_bl) sb_nil) sb_nil) (sb_cons (ss_if (PW.pt (sw_or (st_not (st_truth (SE.pk (se_isD h.ki_MaybeError (by rfl) h.b_isinstance (se_ix (sp_var (pv 1)) (sp_var (pv 2)) rfl) (pe_glob (by rfl) h.g_MaybeError (v := .ref (He.ga K "MaybeError")) rfl (by decide)) (fun _ r => r) rfl rfl)) rfl)) (sw_or1 (st_not (st_truth (SE.pk (se_isD h.ki_ValueError (by rfl) h.b_isinstance (se_ix (sp_var (pv 1)) (sp_var (pv 2)) rfl) (pe_bltn (by rfl) h.b_ValueError (by rfl) (v := .ty "ValueError") rfl (by decide) (by decide)) (fun _ r => r) rfl rfl)) rfl))))) (sb_cons (ss_ret se_bl) sb_nil) sb_nil) sb_nil)) rfl) (sb_cons (ss_for pss rfl (si_val md_p (se_fz (sf_lst (sae_cons (se_err (k := 0) (ErrIn.one (h.r_NoPlace _)) (hr.toRoom.mono (by first | decide | omega)) (by rfl) (sae_cons (se_var (pv 0)) sae_nil rfl) rfl (by decide)) (sae_cons (se_err (k := 0) (ErrIn.one (h.r_NoVersion _)) (hr.toRoom.mono (by first | decide | omega)) (by rfl) (sae_cons (se_var (pv 0)) sae_nil rfl) rfl (by decide)) (sae_cons (se_err0 (k := 0) (h.e_MaybeError _) (hr.toRoom.mono (by first | decide | omega)) (by rfl) (by decide)) sae_nil rfl) rfl) rfl)))) (sg_name (pg_name sc.nd rfl (by first | exact Or.inl rfl | exact Or.inr rfl))) (sb_cons (ss_if (st_cmp cIn_ok (SE.pk se_bl) (SE.pk (se_call (FnIn.at (ok__law_kinds h) hr (by omega) rfl rfl rfl rfl rfl) (by rfl) tk (sae_cons (se_var (pv 4)) sae_nil rfl) rfl (by decide))) rfl) (sb_cons (ss_ret se_bl) sb_nil) sb_nil) sb_nil) rfl) (sb_cons (ss_for pss rfl (si_val md_p (se_fz (sf_lst (sae_cons (se_err (k := 0) (ErrIn.one (h.r_NoPlace _)) (hr.toRoom.mono (by first | decide | omega)) (by rfl) (sae_cons (se_var (pv 0)) sae_nil rfl) rfl (by decide)) (sae_cons (se_err (k := 0) (ErrIn.one (h.r_NoVersion _)) (hr.toRoom.mono (by first | decide | omega)) (by rfl) (sae_cons (se_var (pv 0)) sae_nil rfl) rfl (by decide)) sae_nil rfl) rfl)))) (sg_name (pg_name sc.nd rfl (by first | exact Or.inl rfl | exact Or.inr rfl))) (sb_cons (ss_if (PW.pt (sw_or (st_not (st_truth (SE.pk (se_isD h.ki_LookupError (by rfl) h.b_isinstance (se_var (pv 4)) (pe_bltn (by rfl) h.b_LookupError (by rfl) (v := .ty "LookupError") rfl (by decide) (by decide)) (fun _ r => r) rfl rfl)) rfl)) (sw_or (st_truth (SE.pk (se_isD h.ki_ValueError (by rfl) h.b_isinstance (se_var (pv 4)) (pe_bltn (by rfl) h.b_ValueError (by rfl) (v := .ty "ValueError") rfl (by decide) (by decide)) (fun _ r => r) rfl rfl)) rfl) (sw_or1 (st_truth (SE.pk (se_isD h.ki_MaybeError (by rfl) h.b_isinstance (se_var (pv 4)) (pe_glob (by rfl) h.g_MaybeError (v := .ref (He.ga K "MaybeError")) rfl (by decide)) (fun _ r => r) rfl rfl)) rfl))))) (sb_cons (ss_ret se_bl) sb_nil) sb_nil) sb_nil) rfl) (sb_cons (ss_ret (se_and (se_not (se_isD h.ki_NoVersion (by rfl) h.b_isinstance (se_err (k := 0) (ErrIn.one (h.r_NoPlace _)) (hr.toRoom.mono (by first | decide | omega)) (by rfl) (sae_cons (se_var (pv 0)) sae_nil rfl) rfl (by decide)) (pe_glob (by rfl) h.g_NoVersion (v := .ref (He.ga K "NoVersion")) rfl (by decide)) (fun _ r => r) rfl rfl)) (se_one (se_not (se_isD h.ki_NoPlace (by rfl) h.b_isinstance (se_err (k := 0) (ErrIn.one (h.r_NoVersion _)) (hr.toRoom.mono (by first | decide | omega)) (by rfl) (sae_cons (se_var (pv 0)) sae_nil rfl) rfl (by decide)) (pe_glob (by rfl) h.g_NoPlace (v := .ref (He.ga K "NoPlace")) rfl (by decide)) (fun _ r => r) rfl rfl))))) sb_nil)))))))
theorem sc__law_fields_right : FnScope ["_law_a", "_law_b", "_law_found", "_law_one_here"] ["_law_a", "_law_b"] (defScope (top 55)) := ⟨rfl, rfl, rfl, by decide +kernel, rfl, by decide +kernel, by decide +kernel⟩
theorem ok__law_fields_right (h : Fc P w K mg) : FnIn P w K mg base "_law_fields_right" 42 c__law_fields_right := by
    obtain ⟨f, fd, F, hm⟩ := h.d__law_fields_right
    refine ⟨f, fd, _, rf_fn (n := 4) (np := 2) (j := 41) (m := m__law_fields_right) F sc__law_fields_right rfl rfl (fun cdv A outer s H E hr tk pss => ?_), hm, F.kp, F.bindsN (fun _ _ _ _ _ _ us hl => match us, hl with | [_, _], _ => rfl)⟩
    have sc := sc__law_fields_right
    exact (sb_cons (ss_set sc.nd rfl (by first | exact Or.inl rfl | exact Or.inr rfl) rfl (se_fz (sf_lst (sae_cons (se_xfD h.xf_steps (se_err (k := 0) (ErrIn.one (h.r_Clash _)) (hr.toRoom.mono (by first | decide | omega)) (by rfl) (sae_cons (se_var (pv 0)) sae_nil rfl) rfl (by decide)) (not_super rfl)) (sae_cons (se_xfD h.xf_place (se_err (k := 0) (ErrIn.one (h.r_BadText _)) (hr.toRoom.mono (by first | decide | omega)) (by rfl) (sae_cons (se_var (pv 0)) sae_nil rfl) rfl (by decide)) (not_super rfl)) (sae_cons (se_xfD h.xf_error (se_err (k := 0) (ErrIn.one (h.r_BadProgram _)) (hr.toRoom.mono (by first | decide | omega)) (by rfl) (sae_cons (se_var (pv 0)) sae_nil rfl) rfl (by decide)) (not_super rfl)) (sae_cons (se_xfD h.xf_value (se_err (k := 0) (ErrIn.one (h.r_BadBars _)) (hr.toRoom.mono (by first | decide | omega)) (by rfl) (sae_cons (se_var (pv 0)) sae_nil rfl) rfl (by decide)) (not_super rfl)) (sae_cons (se_xfD h.xf_value (se_err (k := 0) (ErrIn.one (h.r_BadInputs _)) (hr.toRoom.mono (by first | decide | omega)) (by rfl) (sae_cons (se_var (pv 0)) sae_nil rfl) rfl (by decide)) (not_super rfl)) sae_nil rfl) rfl) rfl) rfl) rfl))) rfl) (sb_cons (ss_set sc.nd rfl (by first | exact Or.inl rfl | exact Or.inr rfl) rfl (se_bin oAdd_ok (sp_var (pv 2)) (SE.pk (se_fz (sf_lst (sae_cons (se_xfD h.xf_value (se_err (k := 0) (ErrIn.one (h.r_BadPicks _)) (hr.toRoom.mono (by first | decide | omega)) (by rfl) (sae_cons (se_var (pv 0)) sae_nil rfl) rfl (by decide)) (not_super rfl)) (sae_cons (se_xfD h.xf_place (se_err (k := 0) (ErrIn.one (h.r_NoTest _)) (hr.toRoom.mono (by first | decide | omega)) (by rfl) (sae_cons (se_var (pv 0)) sae_nil rfl) rfl (by decide)) (not_super rfl)) (sae_cons (se_xfD h.xf_place (se_err (k := 0) (ErrIn.one (h.r_NoPin _)) (hr.toRoom.mono (by first | decide | omega)) (by rfl) (sae_cons (se_var (pv 0)) sae_nil rfl) rfl (by decide)) (not_super rfl)) (sae_cons (se_xfD h.xf_place (se_err (k := 0) (ErrIn.one (h.r_NoMaking _)) (hr.toRoom.mono (by first | decide | omega)) (by rfl) (sae_cons (se_var (pv 0)) sae_nil rfl) rfl (by decide)) (not_super rfl)) (sae_cons (se_xfD h.xf_place (se_err (k := 0) (ErrIn.one (h.r_BarThere _)) (hr.toRoom.mono (by first | decide | omega)) (by rfl) (sae_cons (se_var (pv 0)) sae_nil rfl) rfl (by decide)) (not_super rfl)) sae_nil rfl) rfl) rfl) rfl) rfl))))) rfl) (sb_cons (ss_set sc.nd rfl (by first | exact Or.inl rfl | exact Or.inr rfl) rfl (se_bin oAdd_ok (sp_var (pv 2)) (SE.pk (se_fz (sf_lst (sae_cons (se_xfD h.xf_place (se_err (k := 0) (ErrIn.one (h.r_NoBar _)) (hr.toRoom.mono (by first | decide | omega)) (by rfl) (sae_cons (se_var (pv 0)) sae_nil rfl) rfl (by decide)) (not_super rfl)) (sae_cons (se_xfD h.xf_index (se_err (k := 0) (ErrIn.one (h.r_BadEdit _)) (hr.toRoom.mono (by first | decide | omega)) (by rfl) (sae_cons (se_var (pv 0)) sae_nil rfl) rfl (by decide)) (not_super rfl)) (sae_cons (se_xfD h.xf_index (se_err (k := 0) (ErrIn.one (h.r_Rejected _)) (hr.toRoom.mono (by first | decide | omega)) (by rfl) (sae_cons (se_var (pv 0)) sae_nil rfl) rfl (by decide)) (not_super rfl)) (sae_cons (se_xfD h.xf_place (se_err (k := 0) (ErrIn.one (h.r_NoPlace _)) (hr.toRoom.mono (by first | decide | omega)) (by rfl) (sae_cons (se_var (pv 0)) sae_nil rfl) rfl (by decide)) (not_super rfl)) (sae_cons (se_xfD h.xf_value (se_err (k := 0) (ErrIn.one (h.r_NoVersion _)) (hr.toRoom.mono (by first | decide | omega)) (by rfl) (sae_cons (se_var (pv 0)) sae_nil rfl) rfl (by decide)) (not_super rfl)) sae_nil rfl) rfl) rfl) rfl) rfl))))) rfl) (sb_cons (ss_set sc.nd rfl (by first | exact Or.inl rfl | exact Or.inr rfl) rfl (se_bin oAdd_ok (sp_var (pv 2)) (SE.pk (se_fz (sf_lst (sae_cons (se_xfD h.xf_inputs (se_err (k := 0) (h.e_Unsure _) (hr.toRoom.mono (by first | decide | omega)) (by rfl) (sae_cons (se_var (pv 0)) (sae_cons (se_var (pv 1)) sae_nil rfl) rfl) rfl (by decide)) (not_super rfl)) (sae_cons (se_xfD h.xf_picks (se_err (k := 0) (h.e_Unsure _) (hr.toRoom.mono (by first | decide | omega)) (by rfl) (sae_cons (se_var (pv 1)) (sae_cons (se_var (pv 0)) sae_nil rfl) rfl) rfl (by decide)) (not_super rfl)) sae_nil rfl) rfl))))) rfl) (sb_cons (ss_ret (se_callB (bAll_ok rfl) (by rfl) h.b_all (by rfl) (sa_cons (SE.pk (se_fz (sf_lc rfl sc.nd (si_val md_e (sp_var (pv 2))) (blkOk_by (own := [("_law_one_here", 3)]) (by rfl)) (fun _ _ _ _ _ => (sg_name (pg_name sc.nd rfl (by first | exact Or.inl rfl | exact Or.inr rfl)))) (fun _ _ _ _ _ => sts_nil) (fun _ _ _ _ _ => (se_call (FnIn.at ((ok__law_same h 40)) hr (by omega) rfl rfl rfl rfl rfl) (by rfl) takes_no (sae_cons (se_var (pv 3)) (sae_cons (se_var (pv 0)) sae_nil rfl) rfl) rfl (by decide))) (by decide) rfl))) sa_nil rfl) rfl (by decide) (by decide))) sb_nil)))))
theorem sc_law : FnScope ["_law_script", "_law_deck_here", "_law_turn", "_law_a", "_law_b"] ["_law_script"] (defScope (top 57)) := ⟨rfl, rfl, rfl, by decide +kernel, rfl, by decide +kernel, by decide +kernel⟩
theorem okf_law (h : Fc P w K mg) {f : Addr} {fd : FuncData} (F : FunD K "law" "law" (defArgs (top 57)) (defBody (top 57)) (defScope (top 57)) [] [] f fd) : FnOkG P w K mg base (L2.CX P w) 43 f fd ["_law_script"] (spC (k0 K mg w) c_law) := by
  refine rf_fn (n := 5) (np := 1) (j := 42) (m := m_law) F sc_law rfl rfl (fun cdv A outer s H E hr tk pss => ?_)
  have sc := sc_law
  exact (sb_cons (ss_set sc.nd rfl (by first | exact Or.inl rfl | exact Or.inr rfl) rfl (se_call (FnIn.at (ok__law_deck h) hr (by omega) rfl rfl rfl rfl rfl) (by rfl) tk (sae_cons (se_var (pv 0)) sae_nil rfl) rfl (by decide)) rfl) (sb_cons (ss_for pss rfl (si_rng1 md_p (by rfl) h.b_range (SAE.q (sae_cons se_int sae_nil rfl)) rfl) (sg_name (pg_name sc.nd rfl (by first | exact Or.inl rfl | exact Or.inr rfl))) (sb_cons (ss_par2 (i := 3) (j := 4) rfl sc.nd rfl rfl (by decide) rfl rfl (sae_cons (se_call (FnIn.at (ok__law_value h) hr (by omega) rfl rfl rfl rfl rfl) (by rfl) tk (sae_cons (se_var (pv 1)) sae_nil rfl) rfl (by decide)) (sae_cons (se_call (FnIn.at (ok__law_value h) hr (by omega) rfl rfl rfl rfl rfl) (by rfl) tk (sae_cons (se_var (pv 1)) sae_nil rfl) rfl (by decide)) sae_nil rfl) rfl) rfl) (sb_cons (ss_if (PW.pt (sw_or (st_not (st_truth (SE.pk (se_call (FnIn.at (ok__law_kinds_right h) hr (by omega) rfl rfl rfl rfl rfl) (by rfl) tk (sae_cons (se_var (pv 3)) sae_nil rfl) rfl (by decide))) rfl)) (sw_or1 (st_not (st_truth (SE.pk (se_call (FnIn.at (ok__law_fields_right h) hr (by omega) rfl rfl rfl rfl rfl) (by rfl) tk (sae_cons (se_var (pv 3)) (sae_cons (se_var (pv 4)) sae_nil rfl) rfl) rfl (by decide))) rfl))))) (sb_cons (ss_ret se_bl) sb_nil) sb_nil) sb_nil)) rfl) (sb_cons (ss_ret (se_call0 (FnIn.at (ok__law_bounds_right h) hr (by omega) rfl rfl rfl rfl rfl) (by rfl) tk (by decide))) sb_nil)))
end
end Lw
set_option Elab.async false
set_option linter.all false
set_option maxRecDepth 100000
set_option maxHeartbeats 0
namespace Lw
open PySem PySem.Spec PyProof.Rows L2 TL Rf
def dfs : List He.DefD := [⟨("_law_deck", none), "_law_deck", "_law_deck", defArgs (top 48), defBody (top 48), defScope (top 48), [], []⟩, ⟨("_law_same", none), "_law_same", "_law_same", defArgs (top 51), defBody (top 51), defScope (top 51), [], []⟩, ⟨("_law_bounds_right", none), "_law_bounds_right", "_law_bounds_right", defArgs (top 56), defBody (top 56), defScope (top 56), [], []⟩, ⟨("_law_draw", none), "_law_draw", "_law_draw", defArgs (top 49), defBody (top 49), defScope (top 49), [], []⟩, ⟨("_law_one", none), "_law_one", "_law_one", defArgs (top 50), defBody (top 50), defScope (top 50), [], []⟩, ⟨("_law_value", none), "_law_value", "_law_value", defArgs (top 52), defBody (top 52), defScope (top 52), [], []⟩, ⟨("_law_kinds", none), "_law_kinds", "_law_kinds", defArgs (top 53), defBody (top 53), defScope (top 53), [], []⟩, ⟨("_law_kinds_right", none), "_law_kinds_right", "_law_kinds_right", defArgs (top 54), defBody (top 54), defScope (top 54), [], []⟩, ⟨("_law_fields_right", none), "_law_fields_right", "_law_fields_right", defArgs (top 55), defBody (top 55), defScope (top 55), [], []⟩, ⟨("law", none), "law", "law", defArgs (top 57), defBody (top 57), defScope (top 57), [], []⟩, ⟨("BadBars", some "__init__"), "__init__", "BadBars.__init__", defArgs (iniOf (top 7)), defBody (iniOf (top 7)), defScope (iniOf (top 7)), [], []⟩, ⟨("BadEdit", some "__init__"), "__init__", "BadEdit.__init__", defArgs (iniOf (top 21)), defBody (iniOf (top 21)), defScope (iniOf (top 21)), [], []⟩, ⟨("BadInputs", some "__init__"), "__init__", "BadInputs.__init__", defArgs (iniOf (top 8)), defBody (iniOf (top 8)), defScope (iniOf (top 8)), [], []⟩, ⟨("BadPicks", some "__init__"), "__init__", "BadPicks.__init__", defArgs (iniOf (top 9)), defBody (iniOf (top 9)), defScope (iniOf (top 9)), [], []⟩, ⟨("BadProgram", some "__init__"), "__init__", "BadProgram.__init__", defArgs (iniOf (top 6)), defBody (iniOf (top 6)), defScope (iniOf (top 6)), [], []⟩, ⟨("BadText", some "__init__"), "__init__", "BadText.__init__", defArgs (iniOf (top 5)), defBody (iniOf (top 5)), defScope (iniOf (top 5)), [], []⟩, ⟨("BarThere", some "__init__"), "__init__", "BarThere.__init__", defArgs (iniOf (top 13)), defBody (iniOf (top 13)), defScope (iniOf (top 13)), [], []⟩, ⟨("Clash", some "__init__"), "__init__", "Clash.__init__", defArgs (iniOf (top 3)), defBody (iniOf (top 3)), defScope (iniOf (top 3)), [], []⟩, ⟨("NoBar", some "__init__"), "__init__", "NoBar.__init__", defArgs (iniOf (top 14)), defBody (iniOf (top 14)), defScope (iniOf (top 14)), [], []⟩, ⟨("NoMaking", some "__init__"), "__init__", "NoMaking.__init__", defArgs (iniOf (top 12)), defBody (iniOf (top 12)), defScope (iniOf (top 12)), [], []⟩, ⟨("NoPin", some "__init__"), "__init__", "NoPin.__init__", defArgs (iniOf (top 11)), defBody (iniOf (top 11)), defScope (iniOf (top 11)), [], []⟩, ⟨("NoPlace", some "__init__"), "__init__", "NoPlace.__init__", defArgs (iniOf (top 4)), defBody (iniOf (top 4)), defScope (iniOf (top 4)), [], []⟩, ⟨("NoTest", some "__init__"), "__init__", "NoTest.__init__", defArgs (iniOf (top 10)), defBody (iniOf (top 10)), defScope (iniOf (top 10)), [], []⟩, ⟨("NoVersion", some "__init__"), "__init__", "NoVersion.__init__", defArgs (iniOf (top 23)), defBody (iniOf (top 23)), defScope (iniOf (top 23)), [], []⟩, ⟨("Rejected", some "__init__"), "__init__", "Rejected.__init__", defArgs (iniOf (top 22)), defBody (iniOf (top 22)), defScope (iniOf (top 22)), [], []⟩, ⟨("Unsure", some "__init__"), "__init__", "Unsure.__init__", defArgs (iniOf (top 16)), defBody (iniOf (top 16)), defScope (iniOf (top 16)), [], []⟩]
def fas : List He.Fa := [.glo "_law_deck", .glo "_law_same", .glo "_law_bounds_right", .glo "_law_draw", .glo "_law_one", .glo "_law_value", .glo "_law_kinds", .glo "_law_kinds_right", .glo "_law_fields_right", .glo "law", .free "LookupError", .free "ValueError", .free "abs", .free "all", .free "bool", .free "int", .free "isinstance", .free "len", .free "list", .free "max", .free "range", .free "str", .free "tuple", .free "zip"]
def tbs : List He.Tab := []
def sfs : List (He.DefD) := []
def ckk (K : PySem.W.Frag) : Bool := (ckG K "BATCH" (.int 20)) && (ckG K "MAX_ANSWERS" (.int 400)) && (ckG K "MAX_BARS" (.int 3)) && (ckG K "MAX_DIGITS" (.int 150)) && (ckG K "MAX_EDITS" (.int 60)) && (ckG K "MAX_GIVENS" (.int 2)) && (ckG K "MAX_INDEX" (.int 60)) && (ckG K "MAX_MENDS" (.int 3)) && (ckG K "MAX_MEND_PLACES" (.int 6)) && (ckG K "MAX_NAME" (.int 8)) && (ckG K "MAX_NEST" (.int 4)) && (ckG K "MAX_NUMBER" (.int 1000000000000000000)) && (ckG K "MAX_PARTS" (.int 6)) && (ckG K "MAX_PLACES" (.int 30)) && (ckG K "MAX_QUESTIONS" (.int 200)) && (ckG K "MAX_ROW" (.int 30)) && (ckG K "MAX_SIZE" (.int 30)) && (ckG K "MAX_THINGS" (.int 500)) && (ckG K "MAX_TIMES" (.int 12)) && (ckG K "MAX_WAYS" (.int 64)) && (ckG K "MAX_WEIGHT" (.int 200)) && (ckG K "MAX_WORD" (.int 8)) && (ckG K "MAX_WORDS" (.int 3)) && (clsB K "BadBars" ["value"]) && (clsB K "BadEdit" ["index"]) && (clsB K "BadInputs" ["value"]) && (clsB K "BadPicks" ["value"]) && (clsB K "BadProgram" ["error"]) && (clsB K "BadText" ["place"]) && (clsB K "BarThere" ["place"]) && (clsB K "Clash" ["steps"]) && (clsB K "NoBar" ["place"]) && (clsB K "NoMaking" ["place"]) && (clsB K "NoPin" ["place"]) && (clsB K "NoPlace" ["place"]) && (clsB K "NoTest" ["place"]) && (clsB K "NoVersion" ["value"]) && (clsB K "Rejected" ["index"]) && (rsB K (He.ga K "BadBars") (He.ma K (He.ga K "BadBars") "__init__")) && (rsB K (He.ga K "BadEdit") (He.ma K (He.ga K "BadEdit") "__init__")) && (rsB K (He.ga K "BadInputs") (He.ma K (He.ga K "BadInputs") "__init__")) && (rsB K (He.ga K "BadPicks") (He.ma K (He.ga K "BadPicks") "__init__")) && (rsB K (He.ga K "BadProgram") (He.ma K (He.ga K "BadProgram") "__init__")) && (rsB K (He.ga K "BadText") (He.ma K (He.ga K "BadText") "__init__")) && (rsB K (He.ga K "BarThere") (He.ma K (He.ga K "BarThere") "__init__")) && (rsB K (He.ga K "Clash") (He.ma K (He.ga K "Clash") "__init__")) && (rsB K (He.ga K "NoBar") (He.ma K (He.ga K "NoBar") "__init__")) && (rsB K (He.ga K "NoMaking") (He.ma K (He.ga K "NoMaking") "__init__")) && (rsB K (He.ga K "NoPin") (He.ma K (He.ga K "NoPin") "__init__")) && (leB K (He.ga K "NoPlace") (He.ma K (He.ga K "NoPlace") "__init__")) && (rsB K (He.ga K "NoTest") (He.ma K (He.ga K "NoTest") "__init__")) && (leB K (He.ga K "NoVersion") (He.ma K (He.ga K "NoVersion") "__init__")) && (rsB K (He.ga K "Rejected") (He.ma K (He.ga K "Rejected") "__init__")) && (kiB K (.ref (He.ga K "BadBars")) [("BadBars", true), ("BadEdit", false), ("BadEdits", false), ("BadInputs", false), ("BadPicks", false), ("BadProgram", false), ("BadText", false), ("BarThere", false), ("Busy", false), ("Clash", false), ("MaybeError", false), ("NoBar", false), ("NoBars", false), ("NoMaking", false), ("NoPin", false), ("NoPlace", false), ("NoTest", false), ("NoVersion", false), ("NothingToUndo", false), ("Rejected", false), ("TooMany", false), ("TooManyEdits", false), ("Unsure", false)]) && (kiB K (.ref (He.ga K "BadEdit")) [("BadBars", false), ("BadEdit", true), ("BadEdits", false), ("BadInputs", false), ("BadPicks", false), ("BadProgram", false), ("BadText", false), ("BarThere", false), ("Busy", false), ("Clash", false), ("MaybeError", false), ("NoBar", false), ("NoBars", false), ("NoMaking", false), ("NoPin", false), ("NoPlace", false), ("NoTest", false), ("NoVersion", false), ("NothingToUndo", false), ("Rejected", false), ("TooMany", false), ("TooManyEdits", false), ("Unsure", false)]) && (kiB K (.ref (He.ga K "BadEdits")) [("BadBars", false), ("BadEdit", false), ("BadEdits", true), ("BadInputs", false), ("BadPicks", false), ("BadProgram", false), ("BadText", false), ("BarThere", false), ("Busy", false), ("Clash", false), ("MaybeError", false), ("NoBar", false), ("NoBars", false), ("NoMaking", false), ("NoPin", false), ("NoPlace", false), ("NoTest", false), ("NoVersion", false), ("NothingToUndo", false), ("Rejected", false), ("TooMany", false), ("TooManyEdits", false), ("Unsure", false)]) && (kiB K (.ref (He.ga K "BadInputs")) [("BadBars", false), ("BadEdit", false), ("BadEdits", false), ("BadInputs", true), ("BadPicks", false), ("BadProgram", false), ("BadText", false), ("BarThere", false), ("Busy", false), ("Clash", false), ("MaybeError", false), ("NoBar", false), ("NoBars", false), ("NoMaking", false), ("NoPin", false), ("NoPlace", false), ("NoTest", false), ("NoVersion", false), ("NothingToUndo", false), ("Rejected", false), ("TooMany", false), ("TooManyEdits", false), ("Unsure", false)]) && (kiB K (.ref (He.ga K "BadPicks")) [("BadBars", false), ("BadEdit", false), ("BadEdits", false), ("BadInputs", false), ("BadPicks", true), ("BadProgram", false), ("BadText", false), ("BarThere", false), ("Busy", false), ("Clash", false), ("MaybeError", false), ("NoBar", false), ("NoBars", false), ("NoMaking", false), ("NoPin", false), ("NoPlace", false), ("NoTest", false), ("NoVersion", false), ("NothingToUndo", false), ("Rejected", false), ("TooMany", false), ("TooManyEdits", false), ("Unsure", false)]) && (kiB K (.ref (He.ga K "BadProgram")) [("BadBars", false), ("BadEdit", false), ("BadEdits", false), ("BadInputs", false), ("BadPicks", false), ("BadProgram", true), ("BadText", false), ("BarThere", false), ("Busy", false), ("Clash", false), ("MaybeError", false), ("NoBar", false), ("NoBars", false), ("NoMaking", false), ("NoPin", false), ("NoPlace", false), ("NoTest", false), ("NoVersion", false), ("NothingToUndo", false), ("Rejected", false), ("TooMany", false), ("TooManyEdits", false), ("Unsure", false)]) && (kiB K (.ref (He.ga K "BadText")) [("BadBars", false), ("BadEdit", false), ("BadEdits", false), ("BadInputs", false), ("BadPicks", false), ("BadProgram", false), ("BadText", true), ("BarThere", false), ("Busy", false), ("Clash", false), ("MaybeError", false), ("NoBar", false), ("NoBars", false), ("NoMaking", false), ("NoPin", false), ("NoPlace", false), ("NoTest", false), ("NoVersion", false), ("NothingToUndo", false), ("Rejected", false), ("TooMany", false), ("TooManyEdits", false), ("Unsure", false)]) && (kiB K (.ref (He.ga K "BarThere")) [("BadBars", false), ("BadEdit", false), ("BadEdits", false), ("BadInputs", false), ("BadPicks", false), ("BadProgram", false), ("BadText", false), ("BarThere", true), ("Busy", false), ("Clash", false), ("MaybeError", false), ("NoBar", false), ("NoBars", false), ("NoMaking", false), ("NoPin", false), ("NoPlace", false), ("NoTest", false), ("NoVersion", false), ("NothingToUndo", false), ("Rejected", false), ("TooMany", false), ("TooManyEdits", false), ("Unsure", false)]) && (kiB K (.ref (He.ga K "Busy")) [("BadBars", false), ("BadEdit", false), ("BadEdits", false), ("BadInputs", false), ("BadPicks", false), ("BadProgram", false), ("BadText", false), ("BarThere", false), ("Busy", true), ("Clash", false), ("MaybeError", false), ("NoBar", false), ("NoBars", false), ("NoMaking", false), ("NoPin", false), ("NoPlace", false), ("NoTest", false), ("NoVersion", false), ("NothingToUndo", false), ("Rejected", false), ("TooMany", false), ("TooManyEdits", false), ("Unsure", false)]) && (kiB K (.ref (He.ga K "Clash")) [("BadBars", false), ("BadEdit", false), ("BadEdits", false), ("BadInputs", false), ("BadPicks", false), ("BadProgram", false), ("BadText", false), ("BarThere", false), ("Busy", false), ("Clash", true), ("MaybeError", false), ("NoBar", false), ("NoBars", false), ("NoMaking", false), ("NoPin", false), ("NoPlace", false), ("NoTest", false), ("NoVersion", false), ("NothingToUndo", false), ("Rejected", false), ("TooMany", false), ("TooManyEdits", false), ("Unsure", false)]) && (kiB K (.type "LookupError") [("BadBars", false), ("BadEdit", false), ("BadEdits", false), ("BadInputs", false), ("BadPicks", false), ("BadProgram", false), ("BadText", false), ("BarThere", false), ("Busy", false), ("Clash", false), ("MaybeError", false), ("NoBar", false), ("NoBars", false), ("NoMaking", false), ("NoPin", false), ("NoPlace", true), ("NoTest", false), ("NoVersion", true), ("NothingToUndo", false), ("Rejected", false), ("TooMany", false), ("TooManyEdits", false), ("Unsure", false)]) && (kiB K (.ref (He.ga K "MaybeError")) [("BadBars", true), ("BadEdit", true), ("BadEdits", true), ("BadInputs", true), ("BadPicks", true), ("BadProgram", true), ("BadText", true), ("BarThere", true), ("Busy", true), ("Clash", true), ("MaybeError", true), ("NoBar", true), ("NoBars", true), ("NoMaking", true), ("NoPin", true), ("NoPlace", false), ("NoTest", true), ("NoVersion", false), ("NothingToUndo", true), ("Rejected", true), ("TooMany", true), ("TooManyEdits", true), ("Unsure", true)]) && (kiB K (.ref (He.ga K "NoBar")) [("BadBars", false), ("BadEdit", false), ("BadEdits", false), ("BadInputs", false), ("BadPicks", false), ("BadProgram", false), ("BadText", false), ("BarThere", false), ("Busy", false), ("Clash", false), ("MaybeError", false), ("NoBar", true), ("NoBars", false), ("NoMaking", false), ("NoPin", false), ("NoPlace", false), ("NoTest", false), ("NoVersion", false), ("NothingToUndo", false), ("Rejected", false), ("TooMany", false), ("TooManyEdits", false), ("Unsure", false)]) && (kiB K (.ref (He.ga K "NoBars")) [("BadBars", false), ("BadEdit", false), ("BadEdits", false), ("BadInputs", false), ("BadPicks", false), ("BadProgram", false), ("BadText", false), ("BarThere", false), ("Busy", false), ("Clash", false), ("MaybeError", false), ("NoBar", false), ("NoBars", true), ("NoMaking", false), ("NoPin", false), ("NoPlace", false), ("NoTest", false), ("NoVersion", false), ("NothingToUndo", false), ("Rejected", false), ("TooMany", false), ("TooManyEdits", false), ("Unsure", false)]) && (kiB K (.ref (He.ga K "NoMaking")) [("BadBars", false), ("BadEdit", false), ("BadEdits", false), ("BadInputs", false), ("BadPicks", false), ("BadProgram", false), ("BadText", false), ("BarThere", false), ("Busy", false), ("Clash", false), ("MaybeError", false), ("NoBar", false), ("NoBars", false), ("NoMaking", true), ("NoPin", false), ("NoPlace", false), ("NoTest", false), ("NoVersion", false), ("NothingToUndo", false), ("Rejected", false), ("TooMany", false), ("TooManyEdits", false), ("Unsure", false)]) && (kiB K (.ref (He.ga K "NoPin")) [("BadBars", false), ("BadEdit", false), ("BadEdits", false), ("BadInputs", false), ("BadPicks", false), ("BadProgram", false), ("BadText", false), ("BarThere", false), ("Busy", false), ("Clash", false), ("MaybeError", false), ("NoBar", false), ("NoBars", false), ("NoMaking", false), ("NoPin", true), ("NoPlace", false), ("NoTest", false), ("NoVersion", false), ("NothingToUndo", false), ("Rejected", false), ("TooMany", false), ("TooManyEdits", false), ("Unsure", false)]) && (kiB K (.ref (He.ga K "NoPlace")) [("BadBars", false), ("BadEdit", false), ("BadEdits", false), ("BadInputs", false), ("BadPicks", false), ("BadProgram", false), ("BadText", false), ("BarThere", false), ("Busy", false), ("Clash", false), ("MaybeError", false), ("NoBar", false), ("NoBars", false), ("NoMaking", false), ("NoPin", false), ("NoPlace", true), ("NoTest", false), ("NoVersion", false), ("NothingToUndo", false), ("Rejected", false), ("TooMany", false), ("TooManyEdits", false), ("Unsure", false)]) && (kiB K (.ref (He.ga K "NoTest")) [("BadBars", false), ("BadEdit", false), ("BadEdits", false), ("BadInputs", false), ("BadPicks", false), ("BadProgram", false), ("BadText", false), ("BarThere", false), ("Busy", false), ("Clash", false), ("MaybeError", false), ("NoBar", false), ("NoBars", false), ("NoMaking", false), ("NoPin", false), ("NoPlace", false), ("NoTest", true), ("NoVersion", false), ("NothingToUndo", false), ("Rejected", false), ("TooMany", false), ("TooManyEdits", false), ("Unsure", false)]) && (kiB K (.ref (He.ga K "NoVersion")) [("BadBars", false), ("BadEdit", false), ("BadEdits", false), ("BadInputs", false), ("BadPicks", false), ("BadProgram", false), ("BadText", false), ("BarThere", false), ("Busy", false), ("Clash", false), ("MaybeError", false), ("NoBar", false), ("NoBars", false), ("NoMaking", false), ("NoPin", false), ("NoPlace", false), ("NoTest", false), ("NoVersion", true), ("NothingToUndo", false), ("Rejected", false), ("TooMany", false), ("TooManyEdits", false), ("Unsure", false)]) && (kiB K (.ref (He.ga K "NothingToUndo")) [("BadBars", false), ("BadEdit", false), ("BadEdits", false), ("BadInputs", false), ("BadPicks", false), ("BadProgram", false), ("BadText", false), ("BarThere", false), ("Busy", false), ("Clash", false), ("MaybeError", false), ("NoBar", false), ("NoBars", false), ("NoMaking", false), ("NoPin", false), ("NoPlace", false), ("NoTest", false), ("NoVersion", false), ("NothingToUndo", true), ("Rejected", false), ("TooMany", false), ("TooManyEdits", false), ("Unsure", false)]) && (kiB K (.ref (He.ga K "Rejected")) [("BadBars", false), ("BadEdit", false), ("BadEdits", false), ("BadInputs", false), ("BadPicks", false), ("BadProgram", false), ("BadText", false), ("BarThere", false), ("Busy", false), ("Clash", false), ("MaybeError", false), ("NoBar", false), ("NoBars", false), ("NoMaking", false), ("NoPin", false), ("NoPlace", false), ("NoTest", false), ("NoVersion", false), ("NothingToUndo", false), ("Rejected", true), ("TooMany", false), ("TooManyEdits", false), ("Unsure", false)]) && (kiB K (.ref (He.ga K "TooMany")) [("BadBars", false), ("BadEdit", false), ("BadEdits", false), ("BadInputs", false), ("BadPicks", false), ("BadProgram", false), ("BadText", false), ("BarThere", false), ("Busy", false), ("Clash", false), ("MaybeError", false), ("NoBar", false), ("NoBars", false), ("NoMaking", false), ("NoPin", false), ("NoPlace", false), ("NoTest", false), ("NoVersion", false), ("NothingToUndo", false), ("Rejected", false), ("TooMany", true), ("TooManyEdits", false), ("Unsure", false)]) && (kiB K (.ref (He.ga K "TooManyEdits")) [("BadBars", false), ("BadEdit", false), ("BadEdits", false), ("BadInputs", false), ("BadPicks", false), ("BadProgram", false), ("BadText", false), ("BarThere", false), ("Busy", false), ("Clash", false), ("MaybeError", false), ("NoBar", false), ("NoBars", false), ("NoMaking", false), ("NoPin", false), ("NoPlace", false), ("NoTest", false), ("NoVersion", false), ("NothingToUndo", false), ("Rejected", false), ("TooMany", false), ("TooManyEdits", true), ("Unsure", false)]) && (kiB K (.ref (He.ga K "Unsure")) [("BadBars", false), ("BadEdit", false), ("BadEdits", false), ("BadInputs", false), ("BadPicks", false), ("BadProgram", false), ("BadText", false), ("BarThere", false), ("Busy", false), ("Clash", false), ("MaybeError", false), ("NoBar", false), ("NoBars", false), ("NoMaking", false), ("NoPin", false), ("NoPlace", false), ("NoTest", false), ("NoVersion", false), ("NothingToUndo", false), ("Rejected", false), ("TooMany", false), ("TooManyEdits", false), ("Unsure", true)]) && (kiB K (.type "ValueError") [("BadBars", true), ("BadEdit", true), ("BadEdits", true), ("BadInputs", true), ("BadPicks", true), ("BadProgram", true), ("BadText", true), ("BarThere", true), ("Busy", true), ("Clash", true), ("MaybeError", true), ("NoBar", true), ("NoBars", true), ("NoMaking", true), ("NoPin", true), ("NoPlace", false), ("NoTest", true), ("NoVersion", false), ("NothingToUndo", true), ("Rejected", true), ("TooMany", true), ("TooManyEdits", true), ("Unsure", true)]) && (xfsB K "error" ["BadProgram"]) && (xfsB K "index" ["BadEdit", "Rejected"]) && (xfsB K "inputs" ["Unsure"]) && (xfsB K "picks" ["Unsure"]) && (xfsB K "place" ["BadText", "BarThere", "NoBar", "NoMaking", "NoPin", "NoPlace", "NoTest"]) && (xfsB K "steps" ["Clash"]) && (xfsB K "value" ["BadBars", "BadInputs", "BadPicks", "NoVersion"]) && (zeB K "BadEdits") && (zeB K "Busy") && (zeB K "MaybeError") && (zeB K "NoBars") && (zeB K "NothingToUndo") && (zeB K "TooMany") && (zeB K "TooManyEdits") && (clsB K "Unsure" ["inputs", "picks"]) && (rsB K (He.ga K "Unsure") (He.ma K (He.ga K "Unsure") "__init__")) && (okO (PySem.W.nsIn K mainGlobals "BadBars") (some (some (.ref (He.ga K "BadBars"))))) && (okO (PySem.W.nsIn K mainGlobals "BadEdit") (some (some (.ref (He.ga K "BadEdit"))))) && (okO (PySem.W.nsIn K mainGlobals "BadEdits") (some (some (.ref (He.ga K "BadEdits"))))) && (okO (PySem.W.nsIn K mainGlobals "BadInputs") (some (some (.ref (He.ga K "BadInputs"))))) && (okO (PySem.W.nsIn K mainGlobals "BadPicks") (some (some (.ref (He.ga K "BadPicks"))))) && (okO (PySem.W.nsIn K mainGlobals "BadProgram") (some (some (.ref (He.ga K "BadProgram"))))) && (okO (PySem.W.nsIn K mainGlobals "BadText") (some (some (.ref (He.ga K "BadText"))))) && (okO (PySem.W.nsIn K mainGlobals "BarThere") (some (some (.ref (He.ga K "BarThere"))))) && (okO (PySem.W.nsIn K mainGlobals "Busy") (some (some (.ref (He.ga K "Busy"))))) && (okO (PySem.W.nsIn K mainGlobals "Clash") (some (some (.ref (He.ga K "Clash"))))) && (okO (PySem.W.nsIn K mainGlobals "MaybeError") (some (some (.ref (He.ga K "MaybeError"))))) && (okO (PySem.W.nsIn K mainGlobals "NoBar") (some (some (.ref (He.ga K "NoBar"))))) && (okO (PySem.W.nsIn K mainGlobals "NoBars") (some (some (.ref (He.ga K "NoBars"))))) && (okO (PySem.W.nsIn K mainGlobals "NoMaking") (some (some (.ref (He.ga K "NoMaking"))))) && (okO (PySem.W.nsIn K mainGlobals "NoPin") (some (some (.ref (He.ga K "NoPin"))))) && (okO (PySem.W.nsIn K mainGlobals "NoPlace") (some (some (.ref (He.ga K "NoPlace"))))) && (okO (PySem.W.nsIn K mainGlobals "NoTest") (some (some (.ref (He.ga K "NoTest"))))) && (okO (PySem.W.nsIn K mainGlobals "NoVersion") (some (some (.ref (He.ga K "NoVersion"))))) && (okO (PySem.W.nsIn K mainGlobals "NothingToUndo") (some (some (.ref (He.ga K "NothingToUndo"))))) && (okO (PySem.W.nsIn K mainGlobals "Rejected") (some (some (.ref (He.ga K "Rejected"))))) && (okO (PySem.W.nsIn K mainGlobals "TooMany") (some (some (.ref (He.ga K "TooMany"))))) && (okO (PySem.W.nsIn K mainGlobals "TooManyEdits") (some (some (.ref (He.ga K "TooManyEdits"))))) && (okO (PySem.W.nsIn K mainGlobals "Unsure") (some (some (.ref (He.ga K "Unsure")))))
abbrev Rw : PySem.W.OpenRow := PySem.W.OpenLaw.row PySem.Challenge.rw_maybesame_k90_errors_made_by_hand
abbrev hk : PySem.W.Hook := hookS 6 fas dfs sfs tbs ckk
def ob (s : PySem.W.SharedT) : He.AlT × Bool × List FnS := obS 6 fas dfs sfs tbs ckk (HandSHeadRun.getT s)
theorem ob_eq (s : PySem.W.SharedT) : ob s = hk.obs s.abs := obS_eq (HandSHeadRun.getT_eq s)
def loose : List Str := (["_law_deck", "_law_draw", "_law_one", "_law_same", "_law_value", "_law_kinds", "_law_kinds_right", "_law_fields_right", "_law_bounds_right", "MAX_NAME", "MAX_WORD", "MAX_PARTS", "MAX_INDEX", "MAX_NUMBER", "MAX_GIVENS", "MAX_TIMES"] : List Str) ++ (["MAX_NEST", "MAX_PLACES", "MAX_WEIGHT", "MAX_WORDS", "MAX_SIZE", "MAX_ROW", "MAX_QUESTIONS", "MAX_WAYS", "MAX_ANSWERS", "MAX_BARS", "MAX_MENDS", "MAX_MEND_PLACES", "MAX_THINGS", "MAX_DIGITS", "MAX_EDITS", "BATCH"] : List Str) ++ (["MaybeError", "TooMany", "Clash", "NoPlace", "BadText", "BadProgram", "BadBars", "BadInputs", "BadPicks", "NoTest", "NoPin", "NoMaking", "BarThere", "NoBar", "NoBars", "Unsure"] : List Str) ++ (["Busy", "TooManyEdits", "NothingToUndo", "BadEdits", "BadEdit", "Rejected", "NoVersion"] : List Str)
theorem run (w : World) : HandSHeadRun.RunEq Rw (PySem.W.view Rw.prog [57]) hk ob 9000 loose w := by
  intro os
  kernel_rfl
theorem facts {w : World} {K : PySem.W.Frag} {h : Heap} {mg : Str → Option Value} (X : K.In h) (G : h.Ns mainGlobals mg) (c : He.SaysT fas dfs tbs w K) (ck : ckk K = true) (sy : (sfs.map fun d => fnS K d.at_) = sfs.map valS) : Fc (PySem.Challenge.rw_maybesame_k90_errors_made_by_hand).prog w K mg := by
  have cd := c.d
  unfold ckk at ck
  simp only [Bool.and_eq_true] at ck
  obtain ⟨⟨⟨⟨⟨⟨⟨⟨⟨⟨⟨⟨⟨⟨⟨⟨⟨⟨⟨⟨⟨⟨⟨⟨⟨⟨⟨⟨⟨⟨⟨⟨⟨⟨⟨⟨⟨⟨⟨⟨⟨⟨⟨⟨⟨⟨⟨⟨⟨⟨⟨⟨⟨⟨⟨⟨⟨⟨⟨⟨⟨⟨⟨⟨⟨⟨⟨⟨⟨⟨⟨⟨⟨⟨⟨⟨⟨⟨⟨⟨⟨⟨⟨⟨⟨⟨⟨⟨⟨⟨⟨⟨⟨⟨⟨⟨⟨⟨⟨⟨⟨⟨⟨⟨⟨⟨⟨⟨⟨⟨⟨⟨⟨⟨⟨⟨q0, q1⟩, q2⟩, q3⟩, q4⟩, q5⟩, q6⟩, q7⟩, q8⟩, q9⟩, q10⟩, q11⟩, q12⟩, q13⟩, q14⟩, q15⟩, q16⟩, q17⟩, q18⟩, q19⟩, q20⟩, q21⟩, q22⟩, q23⟩, q24⟩, q25⟩, q26⟩, q27⟩, q28⟩, q29⟩, q30⟩, q31⟩, q32⟩, q33⟩, q34⟩, q35⟩, q36⟩, q37⟩, q38⟩, q39⟩, q40⟩, q41⟩, q42⟩, q43⟩, q44⟩, q45⟩, q46⟩, q47⟩, q48⟩, q49⟩, q50⟩, q51⟩, q52⟩, q53⟩, q54⟩, q55⟩, q56⟩, q57⟩, q58⟩, q59⟩, q60⟩, q61⟩, q62⟩, q63⟩, q64⟩, q65⟩, q66⟩, q67⟩, q68⟩, q69⟩, q70⟩, q71⟩, q72⟩, q73⟩, q74⟩, q75⟩, q76⟩, q77⟩, q78⟩, q79⟩, q80⟩, q81⟩, q82⟩, q83⟩, q84⟩, q85⟩, q86⟩, q87⟩, q88⟩, q89⟩, q90⟩, q91⟩, q92⟩, q93⟩, q94⟩, q95⟩, q96⟩, q97⟩, q98⟩, q99⟩, q100⟩, q101⟩, q102⟩, q103⟩, q104⟩, q105⟩, q106⟩, q107⟩, q108⟩, q109⟩, q110⟩, q111⟩, q112⟩, q113⟩, q114⟩, q115⟩, q116⟩ := ck
  refine ⟨?_, ?_, ?_, ?_, ?_, ?_, ?_, ?_, ?_, ?_, ?_, ?_, ?_, ?_, ?_, ?_, ?_, ?_, ?_, ?_, ?_, ?_, ?_, ?_, ?_, ?_, ?_, ?_, ?_, ?_, ?_, ?_, ?_, ?_, ?_, ?_, ?_, ?_, ?_, ?_, ?_, ?_, ?_, ?_, ?_, ?_, ?_, ?_, ?_, ?_, ?_, ?_, ?_, ?_, ?_, ?_, ?_, ?_, ?_, ?_, ?_, ?_, ?_, ?_, ?_, ?_, ?_, ?_, ?_, ?_, ?_, ?_, ?_, ?_, ?_, ?_, ?_, ?_, ?_, ?_, ?_, ?_, ?_, ?_, ?_, ?_, ?_, ?_, ?_, ?_, ?_, ?_, ?_, ?_, ?_, ?_, ?_, ?_, ?_, ?_, ?_, ?_, ?_, ?_, ?_, ?_, ?_, ?_, ?_, ?_, ?_, ?_, ?_, ?_, ?_, ?_, ?_, ?_, ?_, ?_, ?_, ?_, ?_, ?_, ?_, ?_, ?_, ?_, ?_, ?_, ?_, ?_, ?_, ?_, ?_, ?_, ?_, ?_, ?_, ?_⟩
  · exact def_at X G cd (by simp [dfs]) (by simp [fas])
  · exact def_at X G cd (by simp [dfs]) (by simp [fas])
  · exact def_at X G cd (by simp [dfs]) (by simp [fas])
  · exact def_at X G cd (by simp [dfs]) (by simp [fas])
  · exact def_at X G cd (by simp [dfs]) (by simp [fas])
  · exact def_at X G cd (by simp [dfs]) (by simp [fas])
  · exact def_at X G cd (by simp [dfs]) (by simp [fas])
  · exact def_at X G cd (by simp [dfs]) (by simp [fas])
  · exact def_at X G cd (by simp [dfs]) (by simp [fas])
  · exact def_at X G cd (by simp [dfs]) (by simp [fas])
  · exact free_at X G cd (by simp [fas])
  · exact free_at X G cd (by simp [fas])
  · exact free_at X G cd (by simp [fas])
  · exact free_at X G cd (by simp [fas])
  · exact free_at X G cd (by simp [fas])
  · exact free_at X G cd (by simp [fas])
  · exact free_at X G cd (by simp [fas])
  · exact free_at X G cd (by simp [fas])
  · exact free_at X G cd (by simp [fas])
  · exact free_at X G cd (by simp [fas])
  · exact free_at X G cd (by simp [fas])
  · exact free_at X G cd (by simp [fas])
  · exact free_at X G cd (by simp [fas])
  · exact free_at X G cd (by simp [fas])
  · exact ckG_ok (k := (k0 K mg w)) X G q0
  · exact ckG_ok (k := (k0 K mg w)) X G q1
  · exact ckG_ok (k := (k0 K mg w)) X G q2
  · exact ckG_ok (k := (k0 K mg w)) X G q3
  · exact ckG_ok (k := (k0 K mg w)) X G q4
  · exact ckG_ok (k := (k0 K mg w)) X G q5
  · exact ckG_ok (k := (k0 K mg w)) X G q6
  · exact ckG_ok (k := (k0 K mg w)) X G q7
  · exact ckG_ok (k := (k0 K mg w)) X G q8
  · exact ckG_ok (k := (k0 K mg w)) X G q9
  · exact ckG_ok (k := (k0 K mg w)) X G q10
  · exact ckG_ok (k := (k0 K mg w)) X G q11
  · exact ckG_ok (k := (k0 K mg w)) X G q12
  · exact ckG_ok (k := (k0 K mg w)) X G q13
  · exact ckG_ok (k := (k0 K mg w)) X G q14
  · exact ckG_ok (k := (k0 K mg w)) X G q15
  · exact ckG_ok (k := (k0 K mg w)) X G q16
  · exact ckG_ok (k := (k0 K mg w)) X G q17
  · exact ckG_ok (k := (k0 K mg w)) X G q18
  · exact ckG_ok (k := (k0 K mg w)) X G q19
  · exact ckG_ok (k := (k0 K mg w)) X G q20
  · exact ckG_ok (k := (k0 K mg w)) X G q21
  · exact ckG_ok (k := (k0 K mg w)) X G q22
  · exact clsB_ok X G q23
  · exact clsB_ok X G q24
  · exact clsB_ok X G q25
  · exact clsB_ok X G q26
  · exact clsB_ok X G q27
  · exact clsB_ok X G q28
  · exact clsB_ok X G q29
  · exact clsB_ok X G q30
  · exact clsB_ok X G q31
  · exact clsB_ok X G q32
  · exact clsB_ok X G q33
  · exact clsB_ok X G q34
  · exact clsB_ok X G q35
  · exact clsB_ok X G q36
  · exact clsB_ok X G q37
  · exact fun P => (cd.defs (d := ⟨("BadBars", some "__init__"), "__init__", "BadBars.__init__", defArgs (iniOf (top 7)), defBody (iniOf (top 7)), defScope (iniOf (top 7)), [], []⟩) (by simp [dfs])).elim fun fd F => rs_BadBars (clsB_ok X G q23) (rsB_ok q38) F
  · exact fun P => (cd.defs (d := ⟨("BadEdit", some "__init__"), "__init__", "BadEdit.__init__", defArgs (iniOf (top 21)), defBody (iniOf (top 21)), defScope (iniOf (top 21)), [], []⟩) (by simp [dfs])).elim fun fd F => rs_BadEdit (clsB_ok X G q24) (rsB_ok q39) F
  · exact fun P => (cd.defs (d := ⟨("BadInputs", some "__init__"), "__init__", "BadInputs.__init__", defArgs (iniOf (top 8)), defBody (iniOf (top 8)), defScope (iniOf (top 8)), [], []⟩) (by simp [dfs])).elim fun fd F => rs_BadInputs (clsB_ok X G q25) (rsB_ok q40) F
  · exact fun P => (cd.defs (d := ⟨("BadPicks", some "__init__"), "__init__", "BadPicks.__init__", defArgs (iniOf (top 9)), defBody (iniOf (top 9)), defScope (iniOf (top 9)), [], []⟩) (by simp [dfs])).elim fun fd F => rs_BadPicks (clsB_ok X G q26) (rsB_ok q41) F
  · exact fun P => (cd.defs (d := ⟨("BadProgram", some "__init__"), "__init__", "BadProgram.__init__", defArgs (iniOf (top 6)), defBody (iniOf (top 6)), defScope (iniOf (top 6)), [], []⟩) (by simp [dfs])).elim fun fd F => rs_BadProgram (clsB_ok X G q27) (rsB_ok q42) F
  · exact fun P => (cd.defs (d := ⟨("BadText", some "__init__"), "__init__", "BadText.__init__", defArgs (iniOf (top 5)), defBody (iniOf (top 5)), defScope (iniOf (top 5)), [], []⟩) (by simp [dfs])).elim fun fd F => rs_BadText (clsB_ok X G q28) (rsB_ok q43) F
  · exact fun P => (cd.defs (d := ⟨("BarThere", some "__init__"), "__init__", "BarThere.__init__", defArgs (iniOf (top 13)), defBody (iniOf (top 13)), defScope (iniOf (top 13)), [], []⟩) (by simp [dfs])).elim fun fd F => rs_BarThere (clsB_ok X G q29) (rsB_ok q44) F
  · exact fun P => (cd.defs (d := ⟨("Clash", some "__init__"), "__init__", "Clash.__init__", defArgs (iniOf (top 3)), defBody (iniOf (top 3)), defScope (iniOf (top 3)), [], []⟩) (by simp [dfs])).elim fun fd F => rs_Clash (clsB_ok X G q30) (rsB_ok q45) F
  · exact fun P => (cd.defs (d := ⟨("NoBar", some "__init__"), "__init__", "NoBar.__init__", defArgs (iniOf (top 14)), defBody (iniOf (top 14)), defScope (iniOf (top 14)), [], []⟩) (by simp [dfs])).elim fun fd F => rs_NoBar (clsB_ok X G q31) (rsB_ok q46) F
  · exact fun P => (cd.defs (d := ⟨("NoMaking", some "__init__"), "__init__", "NoMaking.__init__", defArgs (iniOf (top 12)), defBody (iniOf (top 12)), defScope (iniOf (top 12)), [], []⟩) (by simp [dfs])).elim fun fd F => rs_NoMaking (clsB_ok X G q32) (rsB_ok q47) F
  · exact fun P => (cd.defs (d := ⟨("NoPin", some "__init__"), "__init__", "NoPin.__init__", defArgs (iniOf (top 11)), defBody (iniOf (top 11)), defScope (iniOf (top 11)), [], []⟩) (by simp [dfs])).elim fun fd F => rs_NoPin (clsB_ok X G q33) (rsB_ok q48) F
  · exact fun P => (cd.defs (d := ⟨("NoPlace", some "__init__"), "__init__", "NoPlace.__init__", defArgs (iniOf (top 4)), defBody (iniOf (top 4)), defScope (iniOf (top 4)), [], []⟩) (by simp [dfs])).elim fun fd F => rs_NoPlace (clsB_ok X G q34) (leB_ok q49) F
  · exact fun P => (cd.defs (d := ⟨("NoTest", some "__init__"), "__init__", "NoTest.__init__", defArgs (iniOf (top 10)), defBody (iniOf (top 10)), defScope (iniOf (top 10)), [], []⟩) (by simp [dfs])).elim fun fd F => rs_NoTest (clsB_ok X G q35) (rsB_ok q50) F
  · exact fun P => (cd.defs (d := ⟨("NoVersion", some "__init__"), "__init__", "NoVersion.__init__", defArgs (iniOf (top 23)), defBody (iniOf (top 23)), defScope (iniOf (top 23)), [], []⟩) (by simp [dfs])).elim fun fd F => rs_NoVersion (clsB_ok X G q36) (leB_ok q51) F
  · exact fun P => (cd.defs (d := ⟨("Rejected", some "__init__"), "__init__", "Rejected.__init__", defArgs (iniOf (top 22)), defBody (iniOf (top 22)), defScope (iniOf (top 22)), [], []⟩) (by simp [dfs])).elim fun fd F => rs_Rejected (clsB_ok X G q37) (rsB_ok q52) F
  · exact kiB_ok X G q53
  · exact kiB_ok X G q54
  · exact kiB_ok X G q55
  · exact kiB_ok X G q56
  · exact kiB_ok X G q57
  · exact kiB_ok X G q58
  · exact kiB_ok X G q59
  · exact kiB_ok X G q60
  · exact kiB_ok X G q61
  · exact kiB_ok X G q62
  · exact kiB_ok X G q63
  · exact kiB_ok X G q64
  · exact kiB_ok X G q65
  · exact kiB_ok X G q66
  · exact kiB_ok X G q67
  · exact kiB_ok X G q68
  · exact kiB_ok X G q69
  · exact kiB_ok X G q70
  · exact kiB_ok X G q71
  · exact kiB_ok X G q72
  · exact kiB_ok X G q73
  · exact kiB_ok X G q74
  · exact kiB_ok X G q75
  · exact kiB_ok X G q76
  · exact kiB_ok X G q77
  · exact xfsB_ok X G q78
  · exact xfsB_ok X G q79
  · exact xfsB_ok X G q80
  · exact xfsB_ok X G q81
  · exact xfsB_ok X G q82
  · exact xfsB_ok X G q83
  · exact xfsB_ok X G q84
  · exact fun P => zeB_ok X G q85
  · exact fun P => zeB_ok X G q86
  · exact fun P => zeB_ok X G q87
  · exact fun P => zeB_ok X G q88
  · exact fun P => zeB_ok X G q89
  · exact fun P => zeB_ok X G q90
  · exact fun P => zeB_ok X G q91
  · exact fun P => (cd.defs (d := ⟨("Unsure", some "__init__"), "__init__", "Unsure.__init__", defArgs (iniOf (top 16)), defBody (iniOf (top 16)), defScope (iniOf (top 16)), [], []⟩) (by simp [dfs])).elim fun fd F => rs_Unsure (clsB_ok X G q92) (rsB_ok q93) F
  · exact PySem.W.mg_of X G (okO_ok q94)
  · exact PySem.W.mg_of X G (okO_ok q95)
  · exact PySem.W.mg_of X G (okO_ok q96)
  · exact PySem.W.mg_of X G (okO_ok q97)
  · exact PySem.W.mg_of X G (okO_ok q98)
  · exact PySem.W.mg_of X G (okO_ok q99)
  · exact PySem.W.mg_of X G (okO_ok q100)
  · exact PySem.W.mg_of X G (okO_ok q101)
  · exact PySem.W.mg_of X G (okO_ok q102)
  · exact PySem.W.mg_of X G (okO_ok q103)
  · exact PySem.W.mg_of X G (okO_ok q104)
  · exact PySem.W.mg_of X G (okO_ok q105)
  · exact PySem.W.mg_of X G (okO_ok q106)
  · exact PySem.W.mg_of X G (okO_ok q107)
  · exact PySem.W.mg_of X G (okO_ok q108)
  · exact PySem.W.mg_of X G (okO_ok q109)
  · exact PySem.W.mg_of X G (okO_ok q110)
  · exact PySem.W.mg_of X G (okO_ok q111)
  · exact PySem.W.mg_of X G (okO_ok q112)
  · exact PySem.W.mg_of X G (okO_ok q113)
  · exact PySem.W.mg_of X G (okO_ok q114)
  · exact PySem.W.mg_of X G (okO_ok q115)
  · exact PySem.W.mg_of X G (okO_ok q116)
end Lw
set_option Elab.async false
set_option linter.all false
set_option maxRecDepth 100000
set_option maxHeartbeats 0
open PySem PySem.W PySem.Calls PyProof.Rows
theorem Lw.cw_of (law : ∀ ns : List Int, ns.length ≤ 63 → ∃ S, Lw.c_law [.scr ns] [] = .ok (.bl true) S) : PySem.Challenge.rw_maybesame_k90_errors_made_by_hand.Holds := by
  w_on; o_law
  refine HandSHeadRun.head_any (r := OpenLaw.row PySem.Challenge.rw_maybesame_k90_errors_made_by_hand) (q := view (OpenLaw.row PySem.Challenge.rw_maybesame_k90_errors_made_by_hand).prog [57]) (H := Lw.hk) (ob := Lw.ob) (M := 9000) (loose := Lw.loose) (d := HandSHeadRun.topDef (OpenLaw.row PySem.Challenge.rw_maybesame_k90_errors_made_by_hand).prog 57) (kwd := []) Lw.ob_eq
    (by kernel_rfl) (fun s => by kernel_rfl) Lw.run (by kernel_rfl) (by kernel_rfl) (by kernel_rfl) (by rfl) (by first | assumption | decide +kernel) (by decide +kernel) ⟨rfl, rfl, rfl, rfl, rfl, by decide +kernel⟩ ?hw ?hc
  case hw => w_witness2
  case hc =>
    refine Rf.rf_walk (l := PySem.Challenge.rw_maybesame_k90_errors_made_by_hand) (n := 63) (k := 43) (x := "_law_script") (c := Lw.c_law) rfl (by decide) (by kernel_rfl) ⟨⟨rfl, by decide, by decide⟩, rfl⟩ ?F law
    intro w mg fa h Y G hmg0
    obtain ⟨K, KX, c, ck, sy⟩ := Y
    have hmg : mg ("law" : PySem.Str) = some (.ref fa) := by
      have e : (HandSHeadRun.topDef (OpenLaw.row PySem.Challenge.rw_maybesame_k90_errors_made_by_hand).prog 57).name = ("law" : PySem.Str) := by kernel_rfl
      rw [← e]
      exact hmg0
    have fc := Lw.facts KX G c ck sy
    obtain ⟨f1, fd1, F1, g1⟩ := fc.d_law
    have e1 : f1 = fa := by
      rw [hmg] at g1
      cases g1; rfl
    subst e1
    exact ⟨K, fd1, KX, fun s v => L2.FunD.bindsA (ps := ["_law_script"]) F1 (fun _ _ _ _ _ _ us hl => match us, hl with | [_], _ => rfl) s [v] rfl, fun base => Lw.okf_law fc F1⟩
set_option Elab.async false
set_option linter.all false
set_option maxRecDepth 100000
set_option maxHeartbeats 0
namespace Rf
open PySem PySem.Spec PyProof.Rows L2 TL Rf
section
variable {T S : Sto} {n : Nat}
theorem Deck.app {G : Sto} (h : Deck T n S) : Deck (T ++ G) n (S ++ G) := by
  obtain ⟨cs, c, rfl, h⟩ := h
  exact ⟨cs, c, rfl, h⟩
end
def DkE (n : Nat) (x0 x1 : O) : Prop := Deck [] n [x0, x1]
section
variable {n m : Nat} {x0 x1 : O} {T S : Sto}
theorem DkE.deck (h : DkE n x0 x1) (T : Sto) : Deck T n (x0 :: x1 :: T) := Deck.app (G := T) h
theorem Deck.cut (h : Deck T n S) : ∃ x0 x1, S = x0 :: x1 :: T ∧ DkE n x0 x1 := by
  obtain ⟨cs, c, rfl, h⟩ := h
  exact ⟨_, _, rfl, cs, c, rfl, h⟩
variable {P : D → Sto → Prop} {xp : ExP}
theorem w_draw3 {many : Int} (h : DkE (n + 1) x0 x1) (h0 : 0 < many) (hm : many.natAbs.log2 < 9000) (k : ∀ (r : Int) (x0 x1 : O), 0 ≤ r → r < many → DkE n x0 x1 → P (.int r) (x0 :: x1 :: T)) : wp (c__law_draw [.obj 1, .int many] (x0 :: x1 :: T)) P :=
  w_draw (h.deck T) h0 hm fun r S' h1 h2 h3 => by
    obtain ⟨y0, y1, rfl, h4⟩ := h3.cut
    exact k r y0 y1 h1 h2 h4
theorem w_one3 {xs : List D} (h : DkE (n + 1) x0 x1) (h0 : xs ≠ []) (hz : xs.length < 2 ^ 40) (k : ∀ (x : D) (x0 x1 : O), x ∈ xs → DkE n x0 x1 → P x (x0 :: x1 :: T)) : wp (c__law_one [.obj 1, .lst xs] (x0 :: x1 :: T)) P :=
  w_one (h.deck T) h0 hz fun r S' h1 h3 => by
    obtain ⟨y0, y1, rfl, h4⟩ := h3.cut
    exact k r y0 y1 h1 h4
end
theorem q_setC {i : Nat} {m : EM} {L : Ls} {S : Sto} {PS : Fl → Ls → Sto → Prop} {xp : ExP} (h : wp (m L S) fun d S1 => ∀ L', L.set i (.v d) = L' → PS .nx L' S1) : wps (sSet i m L S) PS := q_set (h.mono fun d S1 k => k _ rfl)
theorem q_tgC {t : Tg} {m : EM} {L : Ls} {S : Sto} {PS : Fl → Ls → Sto → Prop} {xp : ExP} (h : wp (m L S) fun d S1 => ∃ L1, tgA t d L = some L1 ∧ ∀ L', L1 = L' → PS .nx L' S1) : wps (sTg t m L S) PS := q_tg (h.mono fun d S1 ⟨L1, e, k⟩ => ⟨L1, e, k _ rfl⟩)
theorem q_par2C {i j : Nat} {ma : Ls → Sto → R (List D)} {L : Ls} {S : Sto} {PS : Fl → Ls → Sto → Prop} {xp : ExP} (h : wp (ma L S) fun ds S1 => ∃ x y, ds = [x, y] ∧ ∀ L', (L.set i (.v x)).set j (.v y) = L' → PS .nx L' S1) : wps (sPar2 i j ma L S) PS := q_par2 (h.mono fun ds S1 ⟨x, y, e, k⟩ => ⟨x, y, e, k _ rfl⟩)
theorem q_par3C {i j l : Nat} {ma : Ls → Sto → R (List D)} {L : Ls} {S : Sto} {PS : Fl → Ls → Sto → Prop} {xp : ExP} (h : wp (ma L S) fun ds S1 => ∃ x y z, ds = [x, y, z] ∧ ∀ L', ((L.set i (.v x)).set j (.v y)).set l (.v z) = L' → PS .nx L' S1) : wps (sPar3 i j l ma L S) PS := q_par3 (h.mono fun ds S1 ⟨x, y, z, e, k⟩ => ⟨x, y, z, e, k _ rfl⟩)
instance {i : Nat} {m : EM} {L : Ls} {S : Sto} {PS : Fl → Ls → Sto → Prop} {xp : ExP} : Ws (sSet i m L S) PS (wp (m L S) fun d S1 => ∀ L', L.set i (.v d) = L' → PS .nx L' S1) := ⟨q_setC⟩
instance {t : Tg} {m : EM} {L : Ls} {S : Sto} {PS : Fl → Ls → Sto → Prop} {xp : ExP} : Ws (sTg t m L S) PS (wp (m L S) fun d S1 => ∃ L1, tgA t d L = some L1 ∧ ∀ L', L1 = L' → PS .nx L' S1) := ⟨q_tgC⟩
instance {i j : Nat} {ma : Ls → Sto → R (List D)} {L : Ls} {S : Sto} {PS : Fl → Ls → Sto → Prop} {xp : ExP} : Ws (sPar2 i j ma L S) PS (wp (ma L S) fun ds S1 => ∃ x y, ds = [x, y] ∧ ∀ L', (L.set i (.v x)).set j (.v y) = L' → PS .nx L' S1) := ⟨q_par2C⟩
instance {i j l : Nat} {ma : Ls → Sto → R (List D)} {L : Ls} {S : Sto} {PS : Fl → Ls → Sto → Prop} {xp : ExP} : Ws (sPar3 i j l ma L S) PS (wp (ma L S) fun ds S1 => ∃ x y z, ds = [x, y, z] ∧ ∀ L', ((L.set i (.v x)).set j (.v y)).set l (.v z) = L' → PS .nx L' S1) := ⟨q_par3C⟩
theorem lsG {L : Ls} {P : Ls → Prop} (h : ∀ L', L = L' → P L') : ∀ L', L = L' → P L' := h
section
variable {xp : ExP} {P : D → Sto → Prop} {PS : Fl → Ls → Sto → Prop} {L : Ls} {S : Sto} {a b c : EM} {ma : Ls → Sto → R (List D)} {i : Nat} {sb : SM} {all xs ds : List D} {d : D} {t : Tg}
theorem f_consC (h : xs = d :: ds) (k : ∃ L1, tgA t d L = some L1 ∧ ∀ L', L1 = L' → wps (sb L' S) fun fl L2 S2 => match fl with
    | .nx => wps (forL none all t sb ds L2 S2) PS
    | .ct => wps (forL none all t sb ds L2 S2) PS
    | .bk => PS .nx L2 S2
    | .rt x => PS (.rt x) L2 S2) : wps (forL none all t sb xs L S) PS := by
  obtain ⟨L1, e, k⟩ := k
  exact f_cons h ⟨L1, e, k _ rfl⟩
theorem r_eNwC (h : wp (ma L S) fun ds S1 => ∀ n, S1.length = n → ∀ S', S1 ++ [.lst ds] = S' → P (.obj n) S') : wp (eNw ma L S) P := r_eNw (h.mono fun ds S1 k => k _ rfl _ rfl)
theorem r_nwKC (h : ∀ n, S.length = n → ∀ S', S ++ [.dK []] = S' → P (.obj n) S') : wp (eNwK L S) P := r_nwK (h _ rfl _ rfl)
theorem r_nwNC (h : ∀ n, S.length = n → ∀ S', S ++ [.dN []] = S' → P (.obj n) S') : wp (eNwN L S) P := r_nwN (h _ rfl _ rfl)
theorem q_appOC (h : wp (a L S) fun o S1 => ∃ n ds0, o = .obj n ∧ S1[n]? = some (.lst ds0) ∧ wp (b L S1) fun d S2 => ∃ ds, S2[n]? = some (.lst ds) ∧ ds.length < sizeLine ∧ ∀ S', S2.set n (.lst (ds ++ [d])) = S' → PS .nx L S') : wps (sAppO a b L S) PS :=
  q_appO (h.mono fun o S1 ⟨n, ds0, e, e1, k⟩ => ⟨n, ds0, e, e1, k.mono fun d S2 ⟨ds, e2, e3, k⟩ => ⟨ds, e2, e3, k _ rfl⟩⟩)
theorem q_putOC (h : wp (c L S) fun d S1 => wp (a L S1) fun o S2 => ∃ n, o = .obj n ∧ wp (b L S2) fun j S3 => ∃ k ds jj, j = .int k ∧ S3[n]? = some (.lst ds) ∧ ixN ds.length k = some jj ∧ ∀ S', S3.set n (.lst (ds.set jj d)) = S' → PS .nx L S') : wps (sPutO a b c L S) PS :=
  q_putO (h.mono fun d S1 k => k.mono fun o S2 ⟨n, e, k⟩ => ⟨n, e, k.mono fun j S3 ⟨q, ds, jj, e1, e2, e3, k⟩ => ⟨q, ds, jj, e1, e2, e3, k _ rfl⟩⟩)
theorem q_putDC (h : wp (c L S) fun d S1 => wp (a L S1) fun o S2 => wp (b L S2) fun y S3 => ∃ n q kvs, o = .obj n ∧ kKey y = some q ∧ S3[n]? = some (.dK kvs) ∧ kvs.length < sizeLine ∧ ∀ S', S3.set n (.dK (dPutK kvs q d)) = S' → PS .nx L S') : wps (sPutD a b c L S) PS :=
  q_putD (h.mono fun d S1 k => k.mono fun o S2 k => k.mono fun y S3 ⟨n, q, kvs, e, e1, e2, e3, k⟩ => ⟨n, q, kvs, e, e1, e2, e3, k _ rfl⟩)
theorem r_setKC (h : wp (a L S) fun o S1 => (∃ r, dLook S1 o (.int 0) = some r) ∧ wp (b L S1) fun y S2 => wp (c L S2) fun z S3 => ∃ n q kvs, o = .obj n ∧ kKey y = some q ∧ S3[n]? = some (.dK kvs) ∧ kvs.length < sizeLine ∧
    (∀ d, dGetK kvs q = some d → P d S3) ∧ (dGetK kvs q = none → ∀ S', S3.set n (.dK (dPutK kvs q z)) = S' → P z S')) : wp (eSetK a b c L S) P :=
  r_setK (h.mono fun o S1 ⟨e, k⟩ => ⟨e, k.mono fun y S2 k => k.mono fun z S3 ⟨n, q, kvs, e1, e2, e3, e4, k1, k2⟩ => ⟨n, q, kvs, e1, e2, e3, e4, k1, fun g => k2 g _ rfl⟩⟩)
theorem r_setNC (h : wp (a L S) fun o S1 => isDN S1 o = true ∧ wp (b L S1) fun y S2 => wp (c L S2) fun z S3 => ∃ n q kvs, o = .obj n ∧ kNk y = some q ∧ S3[n]? = some (.dN kvs) ∧ kvs.length < sizeLine ∧
    (∀ d, nGet kvs q = some d → P d S3) ∧ (nGet kvs q = none → ∀ S', S3.set n (.dN (kvs ++ [(q, z)])) = S' → P z S')) : wp (eSetN a b c L S) P :=
  r_setN (h.mono fun o S1 ⟨e, k⟩ => ⟨e, k.mono fun y S2 k => k.mono fun z S3 ⟨n, q, kvs, e1, e2, e3, e4, k1, k2⟩ => ⟨n, q, kvs, e1, e2, e3, e4, k1, fun g => k2 g _ rfl⟩⟩)
instance : Wp (eNw ma L S) P (wp (ma L S) fun ds S1 => ∀ n, S1.length = n → ∀ S', S1 ++ [.lst ds] = S' → P (.obj n) S') := ⟨r_eNwC⟩
instance : Wp (eNwK L S) P (∀ n, S.length = n → ∀ S', S ++ [.dK []] = S' → P (.obj n) S') := ⟨r_nwKC⟩
instance : Wp (eNwN L S) P (∀ n, S.length = n → ∀ S', S ++ [.dN []] = S' → P (.obj n) S') := ⟨r_nwNC⟩
instance : Ws (sAppO a b L S) PS (wp (a L S) fun o S1 => ∃ n ds0, o = .obj n ∧ S1[n]? = some (.lst ds0) ∧ wp (b L S1) fun d S2 => ∃ ds, S2[n]? = some (.lst ds) ∧ ds.length < sizeLine ∧ ∀ S', S2.set n (.lst (ds ++ [d])) = S' → PS .nx L S') := ⟨q_appOC⟩
instance : Ws (sPutO a b c L S) PS (wp (c L S) fun d S1 => wp (a L S1) fun o S2 => ∃ n, o = .obj n ∧ wp (b L S2) fun j S3 => ∃ k ds jj, j = .int k ∧ S3[n]? = some (.lst ds) ∧ ixN ds.length k = some jj ∧ ∀ S', S3.set n (.lst (ds.set jj d)) = S' → PS .nx L S') := ⟨q_putOC⟩
instance : Ws (sPutD a b c L S) PS (wp (c L S) fun d S1 => wp (a L S1) fun o S2 => wp (b L S2) fun y S3 => ∃ n q kvs, o = .obj n ∧ kKey y = some q ∧ S3[n]? = some (.dK kvs) ∧ kvs.length < sizeLine ∧ ∀ S', S3.set n (.dK (dPutK kvs q d)) = S' → PS .nx L S') := ⟨q_putDC⟩
instance : Wp (eSetK a b c L S) P (wp (a L S) fun o S1 => (∃ r, dLook S1 o (.int 0) = some r) ∧ wp (b L S1) fun y S2 => wp (c L S2) fun z S3 => ∃ n q kvs, o = .obj n ∧ kKey y = some q ∧ S3[n]? = some (.dK kvs) ∧ kvs.length < sizeLine ∧
    (∀ d, dGetK kvs q = some d → P d S3) ∧ (dGetK kvs q = none → ∀ S', S3.set n (.dK (dPutK kvs q z)) = S' → P z S')) := ⟨r_setKC⟩
instance : Wp (eSetN a b c L S) P (wp (a L S) fun o S1 => isDN S1 o = true ∧ wp (b L S1) fun y S2 => wp (c L S2) fun z S3 => ∃ n q kvs, o = .obj n ∧ kNk y = some q ∧ S3[n]? = some (.dN kvs) ∧ kvs.length < sizeLine ∧
    (∀ d, nGet kvs q = some d → P d S3) ∧ (nGet kvs q = none → ∀ S', S3.set n (.dN (kvs ++ [(q, z)])) = S' → P z S')) := ⟨r_setNC⟩
theorem q_ownC (h : wp (ma L S) fun ds S1 => ∀ L', L.set i (.o (.lst ds)) = L' → PS .nx L' S1) : wps (sOwn i ma L S) PS := q_own (h.mono fun ds S1 k => k _ rfl)
theorem v_appC {m : EM} (h : ∃ ds, L[i]? = some (.o (.lst ds)) ∧ wp (m L S) fun d S1 => ds.length < sizeLine ∧ ∀ L', L.set i (.o (.lst (ds ++ [d]))) = L' → PS .nx L' S1) : wps (sApp i m L S) PS := by
  obtain ⟨ds, e, h⟩ := h
  exact v_app ⟨ds, e, h.mono fun d S1 ⟨h1, k⟩ => ⟨h1, k _ rfl⟩⟩
theorem v_augC {m : EM} {o : D → D → Option D} (h : ∃ d, L[i]? = some (.v d) ∧ wp (m L S) fun y S1 => ∃ z, o (deref S1 d) (deref S1 y) = some z ∧ ∀ L', L.set i (.v z) = L' → PS .nx L' S1) : wps (sAug i o m L S) PS := by
  obtain ⟨d, e, h⟩ := h
  exact v_aug ⟨d, e, h.mono fun y S1 ⟨z, e, k⟩ => ⟨z, e, k _ rfl⟩⟩
theorem v_frzC (h : ∃ v, L[i]? = some v ∧ match v with
    | .v _ => wps (sb L S) PS
    | .o (.lst ds) => ∀ L', L.set i (.v (.lst ds)) = L' → wps (sb L' S) PS
    | _ => False) : wps (sFrz i sb L S) PS := by
  obtain ⟨v, e, h⟩ := h
  refine v_frz ⟨v, e, ?_⟩
  cases v with
  | v d => exact h
  | o u => cases u with
    | lst ds => exact h _ rfl
    | _ => exact h.elim
  | un => exact h.elim
  | exc x => exact h.elim
instance : Ws (sOwn i ma L S) PS (wp (ma L S) fun ds S1 => ∀ L', L.set i (.o (.lst ds)) = L' → PS .nx L' S1) := ⟨q_ownC⟩
instance {m : EM} : Ws (sApp i m L S) PS (∃ ds, L[i]? = some (.o (.lst ds)) ∧ wp (m L S) fun d S1 => ds.length < sizeLine ∧ ∀ L', L.set i (.o (.lst (ds ++ [d]))) = L' → PS .nx L' S1) := ⟨v_appC⟩
instance {m : EM} {o : D → D → Option D} : Ws (sAug i o m L S) PS (∃ d, L[i]? = some (.v d) ∧ wp (m L S) fun y S1 => ∃ z, o (deref S1 d) (deref S1 y) = some z ∧ ∀ L', L.set i (.v z) = L' → PS .nx L' S1) := ⟨v_augC⟩
instance : Ws (sFrz i sb L S) PS (∃ v, L[i]? = some v ∧ match v with
    | .v _ => wps (sb L S) PS
    | .o (.lst ds) => ∀ L', L.set i (.v (.lst ds)) = L' → wps (sb L' S) PS
    | _ => False) := ⟨v_frzC⟩
theorem repG {ds : List D} {Q : D → Prop} (h : ∃ z, bRepr ds = some z ∧ Q z) : ∃ z, bRepr ds = some z ∧ Q z := h
end
end Rf
set_option Elab.async false
set_option linter.all false
set_option maxRecDepth 100000
set_option maxHeartbeats 0
namespace Rf
open PySem PySem.Spec PyProof.Rows L2 TL Rf
section
local macro_rules | `(tactic| walk_at "rf") => `(tactic| first | ((with_reducible refine anG ?_); ((with_reducible refine And.intro ?_ ?_); exact Nat.le_of_ble_eq_true rfl)) | (with_reducible exact rfl) | fail)
local macro_rules | `(tactic| walk_at "rf") => `(tactic| first | ((with_reducible refine anG ?_); ((with_reducible refine r_dec (fun ht => ?_) (fun ht => ?_)) <;> first | (exfalso; omega) | skip)) | ((with_reducible refine anG ?_); ((with_reducible refine And.intro ?_ ?_); exact rfl)) | fail)
local macro_rules | `(tactic| walk_at "rf") => `(tactic| first | ((with_reducible refine anG ?_); ((with_reducible apply r_isT); (· first | exact rfl | assumption))) | ((with_reducible refine anG ?_); ((with_reducible apply r_isF); (· first | exact rfl | assumption))) | fail)
local macro_rules | `(tactic| walk_at "rf") => `(tactic| first | ((with_reducible refine exG ?_); ((with_reducible apply Exists.intro); (fail_if_success (with_reducible refine g_og ?_ ?_)); (repeat (with_reducible apply Exists.intro)); refine And.intro rfl ?_)) | (with_reducible refine g_ift ?_) | fail)
local macro_rules | `(tactic| walk_at "rf") => `(tactic| first | ((with_reducible refine exG ?_); ((with_reducible apply g_rng1); (· exact rfl); (· constructor <;> omega))) | ((with_reducible refine exG ?_); (with_reducible refine g_op ?_)) | fail)
local macro_rules | `(tactic| walk_at "rf") => `(tactic| first | ((with_reducible refine wpG ?_); (with_reducible refine Wp.imp ?_)) | ((with_reducible refine wsG ?_); (with_reducible refine Ws.imp ?_)) | fail)
section
theorem same_refl : ∀ (n : Nat) (d : D) (S : Sto), pl d = true → dp d < n → c__law_same n [d, d] S = .ok (.bl true) S
  | 0, _, _, _, h => absurd h (Nat.not_lt_zero _)
  | n + 1, .non, S, _, _ => ok_of (by
    apply u__law_same
    repeat' walk_at "rf")
  | n + 1, .bl b, S, _, _ => ok_of (by
    apply u__law_same
    cases b <;> repeat' walk_at "rf")
  | n + 1, .int i, S, _, _ => ok_of (by
    apply u__law_same
    repeat' walk_at "rf"
    exact ⟨congrArg D.bl (decide_eq_true rfl), rfl⟩)
  | n + 1, .str x, S, _, _ => ok_of (by
    apply u__law_same
    repeat' walk_at "rf"
    exact ⟨congrArg D.bl (decide_eq_true rfl), rfl⟩)
  | n + 1, .tup ds, S, hp, hd => ok_of (by
    rw [pl, Bool.and_eq_true, decide_eq_true_iff] at hp
    apply u__law_same
    repeat' walk_at "rf"
    refine wp.eq (a := ds.map fun _ => .bl true) (S := S) ?_ ?_
    · show lcLoop none (pairI ds ds) _ tYs _ _ (pairI ds ds) S [] = _
      rw [pair_self ds]
      refine lc_eq ds (fun d hd' => ⟨_, rfl, rfl, ?_⟩) (Nat.le_trans hp.1 (by decide))
      exact same_refl n d S (plL_mem hp.2 hd') (by have := dpL_mem hd'; rw [dp] at hd; omega)
    · refine r_aNil ⟨_, all_true ds, ?_⟩
      repeat' walk_at "rf")
  | n + 1, .lst ds, S, hp, hd => ok_of (by
    rw [pl, Bool.and_eq_true, decide_eq_true_iff] at hp
    apply u__law_same
    repeat' walk_at "rf"
    refine wp.eq (a := ds.map fun _ => .bl true) (S := S) ?_ ?_
    · show lcLoop none (pairI ds ds) _ tYs _ _ (pairI ds ds) S [] = _
      rw [pair_self ds]
      refine lc_eq ds (fun d hd' => ⟨_, rfl, rfl, ?_⟩) (Nat.le_trans hp.1 (by decide))
      exact same_refl n d S (plL_mem hp.2 hd') (by have := dpL_mem hd'; rw [dp] at hd; omega)
    · refine r_aNil ⟨_, all_true ds, ?_⟩
      repeat' walk_at "rf")
  | _, .obj _, _, h, _ => by cases h
  | _, .gl _, _, h, _ => by cases h
  | _, .ty _, _, h, _ => by cases h
  | _, .scr _, _, h, _ => by cases h
theorem same_ok {n : Nat} {d e : D} {S : Sto} {P : D → Sto → Prop} (h : d = e) (hp : pl e = true) (hd : dp e < n) (k : P (.bl true) S) : wp (c__law_same n [d, e] S) P := by
  subst h
  exact wp.eq (same_refl n d S hp hd) k
variable {T S : Sto} {n : Nat}
end
end
end Rf
set_option Elab.async false
set_option linter.all false
set_option maxRecDepth 100000
set_option maxHeartbeats 0
namespace Rf
open PySem PySem.Spec PyProof.Rows L2 TL Rf
open Lw
section
local macro_rules | `(tactic| walk_at "rf") => `(tactic| first | ((with_reducible refine exG ?_); ((with_reducible apply Exists.intro); (fail_if_success (with_reducible refine g_og ?_ ?_)); (fail_if_success (with_reducible refine repG ?_)); (repeat (with_reducible apply Exists.intro)); refine And.intro rfl ?_)) | ((with_reducible refine anG ?_); ((with_reducible refine And.intro ?_ ?_); exact Nat.le_of_ble_eq_true rfl)) | fail)
local macro_rules | `(tactic| walk_at "rf") => `(tactic| first | ((with_reducible refine wsG ?_); (with_reducible refine Ws.imp ?_)) | ((with_reducible refine exG ?_); ((with_reducible refine g_og ?_ ?_); (· first | assumption | decide | omega | exact Nat.le_of_ble_eq_true rfl | (simp only [List.length_append, List.length_map, List.length_replicate, List.length_cons, List.length_nil]; omega)))) | fail)
local macro_rules | `(tactic| walk_at "rf") => `(tactic| first | ((with_reducible refine lsG ?_); (intro L' hL'; (try simp only [List.set_cons_zero, List.set_cons_succ] at hL'); subst hL')) | ((with_reducible refine wpG ?_); (with_reducible refine Wp.imp ?_)) | fail)
section
variable {ns : List Str} {ds : List D} {S : Sto} {P : D → Sto → Prop}
theorem kd_TooMany (k : P (.lst [.bl true, .bl false, .bl false, .bl false, .bl false, .bl false, .bl false, .bl false, .bl false, .bl false, .bl false, .bl false, .bl false, .bl false, .bl false, .bl false, .bl false, .bl false, .bl false, .bl false]) S) : wp (c__law_kinds [.ins "TooMany" ns ds] S) P := by
  apply u__law_kinds
  repeat' walk_at "rf"
  exact k
theorem kd_Clash (k : P (.lst [.bl false, .bl true, .bl false, .bl false, .bl false, .bl false, .bl false, .bl false, .bl false, .bl false, .bl false, .bl false, .bl false, .bl false, .bl false, .bl false, .bl false, .bl false, .bl false, .bl false]) S) : wp (c__law_kinds [.ins "Clash" ns ds] S) P := by
  apply u__law_kinds
  repeat' walk_at "rf"
  exact k
theorem kd_BadText (k : P (.lst [.bl false, .bl false, .bl true, .bl false, .bl false, .bl false, .bl false, .bl false, .bl false, .bl false, .bl false, .bl false, .bl false, .bl false, .bl false, .bl false, .bl false, .bl false, .bl false, .bl false]) S) : wp (c__law_kinds [.ins "BadText" ns ds] S) P := by
  apply u__law_kinds
  repeat' walk_at "rf"
  exact k
theorem kd_BadProgram (k : P (.lst [.bl false, .bl false, .bl false, .bl true, .bl false, .bl false, .bl false, .bl false, .bl false, .bl false, .bl false, .bl false, .bl false, .bl false, .bl false, .bl false, .bl false, .bl false, .bl false, .bl false]) S) : wp (c__law_kinds [.ins "BadProgram" ns ds] S) P := by
  apply u__law_kinds
  repeat' walk_at "rf"
  exact k
theorem kd_BadBars (k : P (.lst [.bl false, .bl false, .bl false, .bl false, .bl true, .bl false, .bl false, .bl false, .bl false, .bl false, .bl false, .bl false, .bl false, .bl false, .bl false, .bl false, .bl false, .bl false, .bl false, .bl false]) S) : wp (c__law_kinds [.ins "BadBars" ns ds] S) P := by
  apply u__law_kinds
  repeat' walk_at "rf"
  exact k
theorem kd_BadInputs (k : P (.lst [.bl false, .bl false, .bl false, .bl false, .bl false, .bl true, .bl false, .bl false, .bl false, .bl false, .bl false, .bl false, .bl false, .bl false, .bl false, .bl false, .bl false, .bl false, .bl false, .bl false]) S) : wp (c__law_kinds [.ins "BadInputs" ns ds] S) P := by
  apply u__law_kinds
  repeat' walk_at "rf"
  exact k
theorem kd_BadPicks (k : P (.lst [.bl false, .bl false, .bl false, .bl false, .bl false, .bl false, .bl true, .bl false, .bl false, .bl false, .bl false, .bl false, .bl false, .bl false, .bl false, .bl false, .bl false, .bl false, .bl false, .bl false]) S) : wp (c__law_kinds [.ins "BadPicks" ns ds] S) P := by
  apply u__law_kinds
  repeat' walk_at "rf"
  exact k
theorem kd_NoTest (k : P (.lst [.bl false, .bl false, .bl false, .bl false, .bl false, .bl false, .bl false, .bl true, .bl false, .bl false, .bl false, .bl false, .bl false, .bl false, .bl false, .bl false, .bl false, .bl false, .bl false, .bl false]) S) : wp (c__law_kinds [.ins "NoTest" ns ds] S) P := by
  apply u__law_kinds
  repeat' walk_at "rf"
  exact k
theorem kd_NoPin (k : P (.lst [.bl false, .bl false, .bl false, .bl false, .bl false, .bl false, .bl false, .bl false, .bl true, .bl false, .bl false, .bl false, .bl false, .bl false, .bl false, .bl false, .bl false, .bl false, .bl false, .bl false]) S) : wp (c__law_kinds [.ins "NoPin" ns ds] S) P := by
  apply u__law_kinds
  repeat' walk_at "rf"
  exact k
theorem kd_NoMaking (k : P (.lst [.bl false, .bl false, .bl false, .bl false, .bl false, .bl false, .bl false, .bl false, .bl false, .bl true, .bl false, .bl false, .bl false, .bl false, .bl false, .bl false, .bl false, .bl false, .bl false, .bl false]) S) : wp (c__law_kinds [.ins "NoMaking" ns ds] S) P := by
  apply u__law_kinds
  repeat' walk_at "rf"
  exact k
theorem kd_BarThere (k : P (.lst [.bl false, .bl false, .bl false, .bl false, .bl false, .bl false, .bl false, .bl false, .bl false, .bl false, .bl true, .bl false, .bl false, .bl false, .bl false, .bl false, .bl false, .bl false, .bl false, .bl false]) S) : wp (c__law_kinds [.ins "BarThere" ns ds] S) P := by
  apply u__law_kinds
  repeat' walk_at "rf"
  exact k
theorem kd_NoBar (k : P (.lst [.bl false, .bl false, .bl false, .bl false, .bl false, .bl false, .bl false, .bl false, .bl false, .bl false, .bl false, .bl true, .bl false, .bl false, .bl false, .bl false, .bl false, .bl false, .bl false, .bl false]) S) : wp (c__law_kinds [.ins "NoBar" ns ds] S) P := by
  apply u__law_kinds
  repeat' walk_at "rf"
  exact k
theorem kd_NoBars (k : P (.lst [.bl false, .bl false, .bl false, .bl false, .bl false, .bl false, .bl false, .bl false, .bl false, .bl false, .bl false, .bl false, .bl true, .bl false, .bl false, .bl false, .bl false, .bl false, .bl false, .bl false]) S) : wp (c__law_kinds [.ins "NoBars" ns ds] S) P := by
  apply u__law_kinds
  repeat' walk_at "rf"
  exact k
theorem kd_Unsure (k : P (.lst [.bl false, .bl false, .bl false, .bl false, .bl false, .bl false, .bl false, .bl false, .bl false, .bl false, .bl false, .bl false, .bl false, .bl true, .bl false, .bl false, .bl false, .bl false, .bl false, .bl false]) S) : wp (c__law_kinds [.ins "Unsure" ns ds] S) P := by
  apply u__law_kinds
  repeat' walk_at "rf"
  exact k
theorem kd_Busy (k : P (.lst [.bl false, .bl false, .bl false, .bl false, .bl false, .bl false, .bl false, .bl false, .bl false, .bl false, .bl false, .bl false, .bl false, .bl false, .bl true, .bl false, .bl false, .bl false, .bl false, .bl false]) S) : wp (c__law_kinds [.ins "Busy" ns ds] S) P := by
  apply u__law_kinds
  repeat' walk_at "rf"
  exact k
theorem kd_TooManyEdits (k : P (.lst [.bl false, .bl false, .bl false, .bl false, .bl false, .bl false, .bl false, .bl false, .bl false, .bl false, .bl false, .bl false, .bl false, .bl false, .bl false, .bl true, .bl false, .bl false, .bl false, .bl false]) S) : wp (c__law_kinds [.ins "TooManyEdits" ns ds] S) P := by
  apply u__law_kinds
  repeat' walk_at "rf"
  exact k
theorem kd_NothingToUndo (k : P (.lst [.bl false, .bl false, .bl false, .bl false, .bl false, .bl false, .bl false, .bl false, .bl false, .bl false, .bl false, .bl false, .bl false, .bl false, .bl false, .bl false, .bl true, .bl false, .bl false, .bl false]) S) : wp (c__law_kinds [.ins "NothingToUndo" ns ds] S) P := by
  apply u__law_kinds
  repeat' walk_at "rf"
  exact k
theorem kd_BadEdits (k : P (.lst [.bl false, .bl false, .bl false, .bl false, .bl false, .bl false, .bl false, .bl false, .bl false, .bl false, .bl false, .bl false, .bl false, .bl false, .bl false, .bl false, .bl false, .bl true, .bl false, .bl false]) S) : wp (c__law_kinds [.ins "BadEdits" ns ds] S) P := by
  apply u__law_kinds
  repeat' walk_at "rf"
  exact k
theorem kd_BadEdit (k : P (.lst [.bl false, .bl false, .bl false, .bl false, .bl false, .bl false, .bl false, .bl false, .bl false, .bl false, .bl false, .bl false, .bl false, .bl false, .bl false, .bl false, .bl false, .bl false, .bl true, .bl false]) S) : wp (c__law_kinds [.ins "BadEdit" ns ds] S) P := by
  apply u__law_kinds
  repeat' walk_at "rf"
  exact k
theorem kd_Rejected (k : P (.lst [.bl false, .bl false, .bl false, .bl false, .bl false, .bl false, .bl false, .bl false, .bl false, .bl false, .bl false, .bl false, .bl false, .bl false, .bl false, .bl false, .bl false, .bl false, .bl false, .bl true]) S) : wp (c__law_kinds [.ins "Rejected" ns ds] S) P := by
  apply u__law_kinds
  repeat' walk_at "rf"
  exact k
theorem kd_NoPlace (k : P (.lst [.bl false, .bl false, .bl false, .bl false, .bl false, .bl false, .bl false, .bl false, .bl false, .bl false, .bl false, .bl false, .bl false, .bl false, .bl false, .bl false, .bl false, .bl false, .bl false, .bl false]) S) : wp (c__law_kinds [.ins "NoPlace" ns ds] S) P := by
  apply u__law_kinds
  repeat' walk_at "rf"
  exact k
theorem kd_NoVersion (k : P (.lst [.bl false, .bl false, .bl false, .bl false, .bl false, .bl false, .bl false, .bl false, .bl false, .bl false, .bl false, .bl false, .bl false, .bl false, .bl false, .bl false, .bl false, .bl false, .bl false, .bl false]) S) : wp (c__law_kinds [.ins "NoVersion" ns ds] S) P := by
  apply u__law_kinds
  repeat' walk_at "rf"
  exact k
theorem kd_MaybeError (k : P (.lst [.bl false, .bl false, .bl false, .bl false, .bl false, .bl false, .bl false, .bl false, .bl false, .bl false, .bl false, .bl false, .bl false, .bl false, .bl false, .bl false, .bl false, .bl false, .bl false, .bl false]) S) : wp (c__law_kinds [.ins "MaybeError" ns ds] S) P := by
  apply u__law_kinds
  repeat' walk_at "rf"
  exact k
end
end
end Rf
set_option Elab.async false
set_option linter.all false
set_option maxRecDepth 100000
set_option maxHeartbeats 0
namespace Rf
open PySem PySem.Spec PyProof.Rows L2 TL Rf
open Lw
section
local macro_rules | `(tactic| walk_at "rf") => `(tactic| first | ((with_reducible refine anG ?_); ((with_reducible refine And.intro ?_ ?_); exact rfl)) | ((with_reducible refine anG ?_); ((with_reducible refine And.intro ?_ ?_); exact Nat.le_of_ble_eq_true rfl)) | fail)
local macro_rules | `(tactic| walk_at "rf") => `(tactic| first | ((with_reducible refine anG ?_); ((with_reducible apply r_isT); (· first | with_reducible assumption | exact rfl))) | ((with_reducible refine anG ?_); ((with_reducible apply r_isF); (· first | with_reducible assumption | exact rfl))) | fail)
local macro_rules | `(tactic| walk_at "rf") => `(tactic| first | ((with_reducible refine exG ?_); ((with_reducible refine g_og ?_ ?_); (· first | assumption | decide | omega | exact Nat.le_of_ble_eq_true rfl | (simp only [List.length_append, List.length_map, List.length_replicate, List.length_cons, List.length_nil]; omega)))) | ((with_reducible refine exG ?_); ((with_reducible apply Exists.intro); (fail_if_success (with_reducible refine g_og ?_ ?_)); (fail_if_success (with_reducible refine repG ?_)); (repeat (with_reducible apply Exists.intro)); refine And.intro rfl ?_)) | fail)
local macro_rules | `(tactic| walk_at "rf") => `(tactic| first | ((with_reducible refine exG ?_); ((with_reducible apply g_rng1); (· exact rfl); (· constructor <;> omega))) | ((with_reducible refine exG ?_); (with_reducible refine g_op ?_)) | fail)
local macro_rules | `(tactic| walk_at "rf") => `(tactic| first | ((with_reducible refine wsG ?_); ((with_reducible apply f_consC); (· exact rfl))) | ((with_reducible refine wsG ?_); ((with_reducible apply f_nil); (· exact rfl))) | fail)
local macro_rules | `(tactic| walk_at "rf") => `(tactic| first | ((with_reducible refine wpG ?_); ((with_reducible apply l_nil); (· exact rfl))) | ((with_reducible refine wsG ?_); (with_reducible refine Ws.imp ?_)) | fail)
local macro_rules | `(tactic| walk_at "rf") => `(tactic| first | ((with_reducible refine wpG ?_); (with_reducible refine Wp.imp ?_)) | ((with_reducible refine wpG ?_); ((with_reducible apply l_cons); (· exact rfl))) | fail)
local macro_rules | `(tactic| walk_at "rf") => `(tactic| first | (first | (with_reducible apply kd_TooMany) | (with_reducible apply kd_Clash) | (with_reducible apply kd_BadText) | (with_reducible apply kd_BadProgram) | (with_reducible apply kd_BadBars) | (with_reducible apply kd_BadInputs) | (with_reducible apply kd_BadPicks) | (with_reducible apply kd_NoTest) | (with_reducible apply kd_NoPin) | (with_reducible apply kd_NoMaking) | (with_reducible apply kd_BarThere) | (with_reducible apply kd_NoBar) | (with_reducible apply kd_NoBars) | (with_reducible apply kd_Unsure) | (with_reducible apply kd_Busy) | (with_reducible apply kd_TooManyEdits) | (with_reducible apply kd_NothingToUndo) | (with_reducible apply kd_BadEdits) | (with_reducible apply kd_BadEdit) | (with_reducible apply kd_Rejected) | (with_reducible apply kd_NoPlace) | (with_reducible apply kd_NoVersion) | (with_reducible apply kd_MaybeError)) | ((with_reducible refine lsG ?_); (intro L' hL'; (try simp only [List.set_cons_zero, List.set_cons_succ] at hL'); subst hL')) | fail)
section
variable {a : D} {S : Sto} {P : D → Sto → Prop}
theorem kr_ok (k : P (.bl true) S) : wp (c__law_kinds_right [a] S) P := by
  apply u__law_kinds_right
  repeat' walk_at "rf"
  exact k
end
end
end Rf
set_option Elab.async false
set_option linter.all false
set_option maxRecDepth 100000
set_option maxHeartbeats 0
namespace Rf
open PySem PySem.Spec PyProof.Rows L2 TL Rf
open Lw
section
local macro_rules | `(tactic| walk_at "rf") => `(tactic| first | ((with_reducible refine anG ?_); ((with_reducible refine And.intro ?_ ?_); exact Nat.le_of_ble_eq_true rfl)) | fail)
local macro_rules | `(tactic| walk_at "rf") => `(tactic| first | ((with_reducible refine anG ?_); ((with_reducible apply r_isT); (· first | with_reducible assumption | exact rfl))) | ((with_reducible refine anG ?_); ((with_reducible refine And.intro ?_ ?_); exact rfl)) | fail)
local macro_rules | `(tactic| walk_at "rf") => `(tactic| first | ((with_reducible refine exG ?_); ((with_reducible refine g_og ?_ ?_); (· first | assumption | decide | omega | exact Nat.le_of_ble_eq_true rfl | (simp only [List.length_append, List.length_map, List.length_replicate, List.length_cons, List.length_nil]; omega)))) | ((with_reducible refine exG ?_); ((with_reducible apply Exists.intro); (fail_if_success (with_reducible refine g_og ?_ ?_)); (fail_if_success (with_reducible refine repG ?_)); (repeat (with_reducible apply Exists.intro)); refine And.intro rfl ?_)) | fail)
local macro_rules | `(tactic| walk_at "rf") => `(tactic| first | ((with_reducible refine wsG ?_); (with_reducible refine Ws.imp ?_)) | ((with_reducible refine exG ?_); (with_reducible refine g_op ?_)) | fail)
local macro_rules | `(tactic| walk_at "rf") => `(tactic| first | ((with_reducible refine wpG ?_); ((with_reducible apply l_cons); (· exact rfl))) | ((with_reducible refine wpG ?_); ((with_reducible apply l_nil); (· exact rfl))) | fail)
local macro_rules | `(tactic| walk_at "rf") => `(tactic| first | ((with_reducible refine wpG ?_); ((with_reducible apply w_draw3); (· assumption); (· first | decide | omega); (· first | decide | assumption | exact Nat.lt_of_lt_of_le (lgi (k := 64) (by omega) (by decide)) (by decide)); intro r x0 x1 h0 h1 hd)) | ((with_reducible refine wpG ?_); ((with_reducible apply w_one3); (· assumption); (· first | assumption | (intro h; cases h)); (· first | assumption | exact Nat.le_of_ble_eq_true rfl); intro x x0 x1 hx hd)) | fail)
local macro_rules | `(tactic| walk_at "rf") => `(tactic| first | ((with_reducible refine lsG ?_); (intro L' hL'; (try simp only [List.set_cons_zero, List.set_cons_succ] at hL'); subst hL')) | ((with_reducible refine wpG ?_); (with_reducible refine Wp.imp ?_)) | fail)
local macro_rules | `(tactic| walk_at "rf") => `(tactic| first | ((with_reducible refine ⟨_, _, _, rfl, rfl, _, rfl, ?_⟩)) | ((with_reducible apply wp.eq); (· with_reducible assumption)) | fail)
section
variable {a b : D} {S : Sto} {P : D → Sto → Prop}
theorem fr_ok (hp : pl a = true) (hd : dp a < 40) (k : P (.bl true) S) : wp (c__law_fields_right [a, b] S) P := by
  have hs : c__law_same 40 [a, a] S = .ok (.bl true) S := same_refl 40 a S hp hd
  apply u__law_fields_right
  repeat' walk_at "rf"
  exact k
theorem br_ok (k : P (.bl true) S) : wp (c__law_bounds_right [] S) P := by
  apply u__law_bounds_right
  repeat' walk_at "rf"
  refine same_ok rfl (by decide +kernel) (by decide +kernel) ?_
  exact k
end
section
variable {n : Nat} {y0 y1 : O} {T : Sto} {P : D → Sto → Prop}
theorem bs_ok {i : Int} (h : i.natAbs < 2 ^ 40) : bStr [.int i] = some (.str (intS i)) := if_pos (Nat.lt_trans (lg h (by decide)) (by decide))
theorem value_ok (h : DkE (n + 2) y0 y1) (k : ∀ (d : D) (z0 z1 : O), pl d = true → dp d < 40 → DkE n z0 z1 → P d (z0 :: z1 :: T)) : wp (c__law_value [.obj 1] (y0 :: y1 :: T)) P := by
  apply u__law_value
  repeat' walk_at "rf"
  rename_i r z0 z1 h0 h1 hd
  refine ⟨_, bs_ok (i := r - 500000000) ?_, ?_⟩
  · have e9 : (10 : Int) ^ Int.toNat 9 = 1000000000 := by decide
    rw [e9] at h1
    omega
  repeat' walk_at "rf"
  rename_i x z0 z1 hx hd
  have hx' : pl x = true ∧ dp x < 40 := by
    simp only [List.mem_cons, List.mem_nil_iff, or_false] at hx
    rcases hx with rfl | rfl | rfl | rfl | rfl | rfl | rfl | rfl | rfl | rfl | rfl | rfl | rfl <;> exact ⟨rfl, by first | decide | simp [dp, dpL]⟩
  exact k x z0 z1 hx'.1 hx'.2 hd
end
end
end Rf
set_option Elab.async false
set_option linter.all false
set_option maxRecDepth 100000
set_option maxHeartbeats 0
namespace Rf
open PySem PySem.Spec PyProof.Rows L2 TL Rf
open Lw
section
variable {n : Nat} {y0 y1 : O} {T S : Sto} {P : D → Sto → Prop}
theorem w_vals (h : DkE (n + 2) y0 y1) (k : ∀ (d : D) (z0 z1 : O), pl d = true ∧ dp d < 40 → DkE n z0 z1 → P d (z0 :: z1 :: T)) : wp (c__law_value [.obj 1] (y0 :: y1 :: T)) P := value_ok h fun d z0 z1 h1 h2 h3 => k d z0 z1 ⟨h1, h2⟩ h3
theorem w_kinds {a : D} (k : P (.bl true) S) : wp (c__law_kinds_right [a] S) P := kr_ok k
theorem w_fields {a b : D} (h : pl a = true ∧ dp a < 40) (k : P (.bl true) S) : wp (c__law_fields_right [a, b] S) P := fr_ok h.1 h.2 k
theorem w_bounds (k : P (.bl true) S) : wp (c__law_bounds_right [] S) P := br_ok k
end
section
local macro_rules | `(tactic| walk_at "rf") => `(tactic| first | (with_reducible exact rfl) | fail)
local macro_rules | `(tactic| walk_at "rf") => `(tactic| first | ((with_reducible refine exG ?_); ((with_reducible apply Exists.intro); (fail_if_success (with_reducible refine g_og ?_ ?_)); (fail_if_success (with_reducible refine repG ?_)); (repeat (with_reducible apply Exists.intro)); refine And.intro rfl ?_)) | ((with_reducible refine anG ?_); ((with_reducible apply r_isF); (· first | with_reducible assumption | exact rfl))) | fail)
local macro_rules | `(tactic| walk_at "rf") => `(tactic| first | ((with_reducible refine wsG ?_); ((with_reducible apply f_nil); (· exact rfl))) | ((with_reducible refine exG ?_); ((with_reducible apply g_rng1); (· exact rfl); (· constructor <;> omega))) | fail)
local macro_rules | `(tactic| walk_at "rf") => `(tactic| first | ((with_reducible refine wsG ?_); (with_reducible refine Ws.imp ?_)) | ((with_reducible refine wsG ?_); ((with_reducible apply f_consC); (· exact rfl))) | fail)
local macro_rules | `(tactic| walk_at "rf") => `(tactic| first | ((with_reducible refine lsG ?_); (intro L' hL'; (try simp only [List.set_cons_zero, List.set_cons_succ] at hL'); subst hL')) | ((with_reducible refine wpG ?_); (with_reducible refine Wp.imp ?_)) | fail)
local macro_rules | `(tactic| walk_at "rf") => `(tactic| first | ((with_reducible apply w_fields); (· with_reducible assumption)) | (with_reducible apply w_bounds) | fail)
local macro_rules | `(tactic| walk_at "rf") => `(tactic| first | ((with_reducible apply w_vals); (· with_reducible assumption); intro d z0 z1 hp hd) | (with_reducible apply w_kinds) | fail)
theorem law_main (ns : List Int) (h : ns.length ≤ 63) : @wp noXP _ (c_law [.scr ns] []) fun d S => d = .bl true := by
  obtain ⟨S0, hdk, hD⟩ := deck_new h (n := 16) (by decide)
  obtain ⟨a0, a1, rfl, hd0⟩ := hD.cut
  apply u_law
  repeat' walk_at "rf"
  refine wp.eq hdk ?_
  repeat' walk_at "rf"
theorem _root_.Lw.law_true (ns : List Int) (h : ns.length ≤ 63) : ∃ S, c_law [.scr ns] [] = .ok (.bl true) S := by
  obtain ⟨d, S, e, rfl⟩ := (law_main ns h).ex
  exact ⟨S, e⟩
end
end Rf
set_option Elab.async false
set_option linter.all false
set_option maxRecDepth 100000
set_option maxHeartbeats 0
theorem PySem.Challenge.cw_maybesame_k90_errors_made_by_hand_holds : PySem.Challenge.rw_maybesame_k90_errors_made_by_hand.Holds :=
  Lw.cw_of Lw.law_true

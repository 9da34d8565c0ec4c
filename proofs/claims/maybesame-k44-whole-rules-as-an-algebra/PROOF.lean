import PyProof.Rows.All
import Wide.All
import OpenK.AllK
import Wide.FinOn
import HandS.ForMost
import HandS.ForExc
import HandS.Defaults
import HandS.CallSlots
import HandS.TryOnly
import HandS.Zip
import HandS.Wide
import HandS.IsInst
import HandS.Style
import HandS.ExcCtx
import KE.KeyNested
import HandS.TupAny
import HandS.TupMul
import HandS.WideBits
import HandS.SortInts
import KE.GoesEnum
import HandS.Head0
import HandS.Head1
import HandS.Head2
import HandS.HeadEnd
import HandS.HeadHook1
import HandS.HeadHook2
import HandS.HeadHook3
import HandS.HeadHook4
import HandS.FStr
import HandS.RaiseMore
import HandS.SetBool
import HandS.SetTxt0
import PyProof.Rows.SortShellAny
import HandS.Strs
import HandS.ExcField
import HandS.ExcIs
import HandS.TryMany
import HandS.Conv
import HandS.TupLe
import HandS.TupSets
import HandS.Keys
import HandS.FltList
import HandS.SetKeys
import HandS.Nested
import KE.KSuper
import PyProof.ReprRoads
import HandS.Small
import HandS.More
import HandS.Deep
import PyProof.EqKinds
import PyProof.Rows.IntBool
import PyProof.P3In
import HandS.New0
import HandS.WordsDict
import HandS.Star
import KE.KExcInit
import PyProof.Rows.TupTab
import HandS.Rev
import HandS.Property
import HandS.Dict
import HandS.HotCalls
import KE.KOpsOwn
import KE.KExcSuper
import PySem.Challenge.RW_maybesame_k44_whole_rules_as_an_algebra
set_option Elab.async false
set_option linter.all false
set_option maxRecDepth 100000
namespace Rf
open PySem L2
/-- a value as a tree; lists and dicts here are never changed again; what is changed through aliases stands in the store, by its number -/
inductive D where
  | non | bl (b : Bool) | int (i : Int) | str (x : List Nat)
  | tup (xs : List D) | lst (xs : List D)
  | obj (n : Nat) | gl (x : Str) | ty (n : String)
  /-- the law's script -/
  | scr (xs : List Int)
  /-- an empty dict, an exception of the class named c, its own attributes named ns; both never changed again -/
  | edc | ins (c : Str) (ns : List Str) (xs : List D)
  deriving Inhabited
/-- what may be changed -/
inductive O where
  | lst (xs : List D)
  /-- dicts with keys that are ints and texts, with keys that are tuples of these; an instance -/
  | dK (kvs : List (Key × D)) | dT (kvs : List (List Key × D)) | ins (c : Str) (ns : List Str) (xs : List D)
  /-- a dict whose keys are tuples of ints, texts, None and such tuples -/
  | dN (kvs : List (NestedKey × D))
  deriving Inhabited
structure Exn where
  cls : Str
  fs : List (Str × D)
/-- a result: a value and the store, an exception, or nothing is known -/
inductive R (α : Type) where
  | ok (a : α) (S : List O)
  | ex (x : Exn) (S : List O)
  | no
@[reducible] def R.bind {α β : Type} (r : R α) (f : α → List O → R β) : R β := match r with
  | .ok a S => f a S
  | .ex x S => .ex x S
  | .no => .no
/-- a local: nothing, a value, an object of the frame's own -/
inductive LV where
  | un | v (d : D) | o (o : O)
  /-- the exception that the suite holds -/
  | exc (x : Exn)
  deriving Inhabited
abbrev Ls := List LV
abbrev Sto := List O
abbrev EM := Ls → Sto → R D
/-- ghost: what is never written again, where the store's objects stand, how many they are -/
structure G where
  F : Addr → Prop
  ρ : Nat → Addr
  n : Nat
def KLst (K : PySem.W.Frag) (a : Addr) (xs : List V) : Prop :=
  ∃ (o : Obj) (its : Array Value) (n : Nat), K.lookup a = some o ∧ o.cls = .type "list" ∧ o.dict = none ∧ o.data = .seq its n ∧ its.size ≤ sizeLine ∧ Vals xs its.toList
/-- a list that is known to its object or stands in the written part -/
def ScrAt (K : PySem.W.Frag) (H : Hp) (a : Addr) (vs : List V) : Prop := (∃ o, H a = some (.frz o (.lst vs))) ∨ KLst K a vs
theorem ScrAt.sq {K : PySem.W.Frag} {H : Hp} {a : Addr} {vs : List V} (h : ScrAt K H a vs) : SqL K H a vs := by
  rcases h with ⟨o, h⟩ | h
  · exact .inl (.inr ⟨o, h⟩)
  · exact .inr h
/-- a tuple -/
def TupAt (K : PySem.W.Frag) (H : Hp) (a : Addr) (vs : List V) : Prop := H a = some (.tup vs) ∨
  (∃ (o : Obj) (its : Array Value) (n : Nat), K.lookup a = some o ∧ o.cls = .type "tuple" ∧ o.data = .seq its n ∧ its.size ≤ sizeLine ∧ Vals vs its.toList) ∧ ((∃ v ∈ vs, ∀ i, v ≠ V.int i) ∨ vs = [])
theorem TupAt.sq {K : PySem.W.Frag} {H : Hp} {a : Addr} {vs : List V} (h : TupAt K H a vs) : SqT K H a vs := h.elim (fun h => .inl (.inl h)) fun h => .inr h.1
/-- what does not change: the written part, the module's names -/
structure Kx where
  K : PySem.W.Frag
  mg : Str → Option Value
  /-- the exception that the suite holds -/
  cur : Option (Addr × Obj)
  w : World
abbrev k0 (K : PySem.W.Frag) (mg : Str → Option Value) (w : World) : Kx := ⟨K, mg, none, w⟩
def KTup (K : PySem.W.Frag) (H : Hp) (a : Addr) (vs : List V) : Prop := H a = some (.tup vs) ∨
  ∃ (o : Obj) (its : Array Value) (n : Nat), K.lookup a = some o ∧ o.cls = .type "tuple" ∧ o.data = .seq its n ∧ its.size ≤ sizeLine ∧ Vals vs its.toList
theorem TupAt.k {K : PySem.W.Frag} {H : Hp} {a : Addr} {vs : List V} (h : TupAt K H a vs) : KTup K H a vs := h.elim .inl fun h => .inr h.1
theorem KTup.sq {K : PySem.W.Frag} {H : Hp} {a : Addr} {vs : List V} (h : KTup K H a vs) : SqT K H a vs := h.elim (fun h => .inl (.inl h)) fun h => .inr h
mutual
def KIs (K : PySem.W.Frag) (H : Hp) : NestedKey → V → Prop
  | .none, v => v = .non
  | .num i, v => v = .int i
  | .text x, v => v = .str x
  | .tup ks, v => ∃ a vs, v = .ref a ∧ KTup K H a vs ∧ KIsL K H ks vs
def KIsL (K : PySem.W.Frag) (H : Hp) : List NestedKey → List V → Prop
  | [], vs => vs = []
  | k :: ks, vs => ∃ v r, vs = v :: r ∧ KIs K H k v ∧ KIsL K H ks r
end
mutual
theorem KIs.at {K : PySem.W.Frag} {H H' : Hp} (h : ∀ a xs, H a = some (.tup xs) → H' a = some (.tup xs)) : ∀ (k : NestedKey) (v : V), KIs K H k v → KIs K H' k v
  | .none, _, q => q
  | .num _, _, q => q
  | .text _, _, q => q
  | .tup ks, _, ⟨a, vs, e, t, r⟩ => ⟨a, vs, e, t.elim (fun t => .inl (h _ _ t)) .inr, KIsL.at h ks vs r⟩
theorem KIsL.at {K : PySem.W.Frag} {H H' : Hp} (h : ∀ a xs, H a = some (.tup xs) → H' a = some (.tup xs)) : ∀ (ks : List NestedKey) (vs : List V), KIsL K H ks vs → KIsL K H' ks vs
  | [], _, q => q
  | k :: ks, _, ⟨v, r, e, h1, h2⟩ => ⟨v, r, e, KIs.at h k v h1, KIsL.at h ks r h2⟩
end
/-- an entry: the key, where its tuple stands, the value -/
abbrev NEnt := List (NestedKey × Addr × V)
def nEs (w : World) : NEnt → List Value → List DictEntry
  | [], _ => []
  | _ :: _, [] => []
  | e :: es, u :: us => ⟨e.1.hash w, .ref e.2.1, u⟩ :: nEs w es us
/-- the dict with these entries stands at a -/
def NDx (w : World) (a : Addr) (es : NEnt) : HO := .ext fun h => es.length ≤ sizeLine ∧ (a == sysModules) = false ∧ ∃ (us : List Value) (o : Obj) (des : Array DictEntry) (ep : Nat),
  Vals (es.map (·.2.2)) us ∧ h.get? a = some o ∧ o.ExactDict ∧ o.data = .dict des ep ∧ des.toList = nEs w es us
def NKeys (K : PySem.W.Frag) (H : Hp) (es : NEnt) : Prop := ∀ e ∈ es, KIs K H e.1 (.ref e.2.1) ∧ e.1.depth ≤ 8
theorem NKeys.at {K : PySem.W.Frag} {H H' : Hp} (h : ∀ a xs, H a = some (.tup xs) → H' a = some (.tup xs)) {es : NEnt} (r : NKeys K H es) : NKeys K H' es := fun e he => ⟨KIs.at h _ _ (r e he).1, (r e he).2⟩
/-- an exception held as a value stands at a: of the class at C, its own dict at d -/
def ErrO (a C : Addr) (d : Option Addr) : HO := .ext fun h => ∃ (ox : Obj) (fv : Array Value), h.get? a = some ox ∧ ox.cls = .ref C ∧ ox.dict = d ∧ ox.data = .fields fv
section
variable (k : Kx) (H : Hp) (g : G)
mutual
def Rep : D → V → Prop
  | .non, v => v = .non
  | .bl b, v => v = .bl b
  | .int i, v => v = .int i
  | .str x, v => v = .str ⟨x.toArray⟩
  | .tup ds, v => ∃ a vs, v = .ref a ∧ TupAt k.K H a vs ∧ RepL ds vs
  | .lst ds, v => ∃ a vs, v = .ref a ∧ g.F a ∧ H a = some (.lst vs) ∧ RepL ds vs
  | .obj n, v => n < g.n ∧ v = .ref (g.ρ n)
  | .gl x, v => ∃ a, k.mg x = some (.ref a) ∧ v = .ref a
  | .ty n, v => v = .ty n
  | .scr ns, v => ∃ a, v = .ref a ∧ ScrAt k.K H a (ns.map V.int)
  | .edc, v => ∃ a, v = .ref a ∧ g.F a ∧ H a = some (.dK [])
  | .ins c ns ds, v => ∃ a C d vs, v = .ref a ∧ g.F a ∧ k.mg c = some (.ref C) ∧ H a = some (ErrO a C d) ∧ RepL ds vs ∧ ((d = none ∧ ns = []) ∨ ∃ dd, d = some dd ∧ g.F dd ∧ H dd = some (.xd (ns.zip vs)))
def RepL : List D → List V → Prop
  | [], vs => vs = []
  | d :: ds, vs => ∃ v r, vs = v :: r ∧ Rep d v ∧ RepL ds r
end
/-- an object of the store, of a frame -/
def ORep : O → Addr → Prop
  | .lst ds, a => ∃ vs, H a = some (.lst vs) ∧ RepL k H g ds vs
  | .dK kvs, a => ∃ vs, H a = some (.dK ((kvs.map (·.1)).zip vs)) ∧ RepL k H g (kvs.map (·.2)) vs
  | .dT kvs, a => ∃ vs, H a = some (.dT ((kvs.map (·.1)).zip vs)) ∧ RepL k H g (kvs.map (·.2)) vs
  | .ins c ns ds, a => ∃ C dx vs, k.mg c = some (.ref C) ∧ H a = some (.ins C dx (ns.zip vs)) ∧ RepL k H g ds vs
  | .dN kvs, a => ∃ es, H a = some (NDx k.w a es) ∧ es.map (·.1) = kvs.map (·.1) ∧ (kvs.map (·.1)).Nodup ∧ NKeys k.K H es ∧ RepL k H g (kvs.map (·.2)) (es.map (·.2.2))
end
/-- what stands stays -/
structure PExt (H : Hp) (g : G) (H' : Hp) (g' : G) : Prop where
  F : ∀ a, g.F a → g'.F a
  kF : ∀ a o, g.F a → H a = some o → H' a = some o
  kT : ∀ a xs, H a = some (.tup xs) → H' a = some (.tup xs)
  kZ : ∀ a o u, H a = some (.frz o u) → H' a = some (.frz o u)
  n : g.n ≤ g'.n
  ρ : ∀ i, i < g.n → g'.ρ i = g.ρ i
/-- .. and nothing but the store's objects is changed -/
structure Ext (H : Hp) (g : G) (H' : Hp) (g' : G) : Prop extends PExt H g H' g' where
  keep : ∀ a o, H a = some o → (∀ i, i < g.n → g.ρ i ≠ a) → H' a = some o
  newF : ∀ a, g'.F a → g.F a ∨ H a = none
  newρ : ∀ i, g.n ≤ i → i < g'.n → H (g'.ρ i) = none
  tr : ∀ a o, H a = some o → ∃ u, H' a = some u
theorem PExt.refl (H : Hp) (g : G) : PExt H g H g := ⟨fun _ h => h, fun _ _ _ h => h, fun _ _ h => h, fun _ _ _ h => h, Nat.le_refl _, fun _ _ => rfl⟩
theorem PExt.trans {H H1 H2 : Hp} {g g1 g2 : G} (a : PExt H g H1 g1) (b : PExt H1 g1 H2 g2) : PExt H g H2 g2 :=
  ⟨fun x h => b.F x (a.F x h), fun x o f h => b.kF x o (a.F x f) (a.kF x o f h), fun x xs h => b.kT x xs (a.kT x xs h), fun x o u h => b.kZ x o u (a.kZ x o u h), Nat.le_trans a.n b.n,
    fun i h => (b.ρ i (Nat.lt_of_lt_of_le h a.n)).trans (a.ρ i h)⟩
theorem Ext.refl (H : Hp) (g : G) : Ext H g H g := ⟨PExt.refl H g, fun _ _ h _ => h, fun _ h => .inl h, fun i h1 h2 => absurd h2 (Nat.not_lt.mpr h1), fun _ o h => ⟨o, h⟩⟩
theorem Ext.trans {H H1 H2 : Hp} {g g1 g2 : G} (a : Ext H g H1 g1) (b : Ext H1 g1 H2 g2) : Ext H g H2 g2 where
  toPExt := a.toPExt.trans b.toPExt
  keep := fun x o h hn => b.keep x o (a.keep x o h hn) fun i hi e => by
    by_cases h1 : i < g.n
    · exact hn i h1 ((a.ρ i h1).symm.trans e)
    · have z := a.newρ i (Nat.le_of_not_lt h1) hi
      rw [e, h] at z; cases z
  newF := fun x h => by
    rcases b.newF x h with h | h
    · exact a.newF x h
    · cases q : H x with
      | none => exact .inr rfl
      | some o => obtain ⟨u, z⟩ := a.tr x o q; rw [h] at z; cases z
  newρ := fun i h1 h2 => by
    by_cases h3 : i < g1.n
    · rw [b.ρ i h3]; exact a.newρ i h1 h3
    · have z := b.newρ i (Nat.le_of_not_lt h3) h2
      cases q : H (g2.ρ i) with
      | none => rfl
      | some o => obtain ⟨u, y⟩ := a.tr _ o q; rw [z] at y; cases y
  tr := fun x o h => by
    obtain ⟨u, h⟩ := a.tr x o h
    exact b.tr x u h
section
variable {k : Kx} {H H' : Hp} {g g' : G}
theorem tupAt_mono (e : PExt H g H' g') {a : Addr} {vs : List V} (h : TupAt k.K H a vs) : TupAt k.K H' a vs := by
  rcases h with h | h
  · exact .inl (e.kT _ _ h)
  · exact .inr h
theorem scrAt_mono (e : PExt H g H' g') {a : Addr} {vs : List V} (h : ScrAt k.K H a vs) : ScrAt k.K H' a vs := by
  rcases h with ⟨o, h⟩ | h
  · exact .inl ⟨o, e.kZ _ _ _ h⟩
  · exact .inr h
mutual
theorem Rep.mono (e : PExt H g H' g') : ∀ (d : D) (v : V), Rep k H g d v → Rep k H' g' d v
  | .non, _, h => h
  | .bl _, _, h => h
  | .int _, _, h => h
  | .str _, _, h => h
  | .tup ds, _, ⟨a, vs, h1, h2, h3⟩ => ⟨a, vs, h1, tupAt_mono e h2, RepL.mono e ds vs h3⟩
  | .lst ds, _, ⟨a, vs, h1, h2, h3, h4⟩ => ⟨a, vs, h1, e.F _ h2, e.kF _ _ h2 h3, RepL.mono e ds vs h4⟩
  | .obj n, _, ⟨h1, h2⟩ => ⟨Nat.lt_of_lt_of_le h1 e.n, by rw [h2, e.ρ n h1]⟩
  | .gl _, _, h => h
  | .ty _, _, h => h
  | .scr _, _, ⟨a, h1, h2⟩ => ⟨a, h1, scrAt_mono e h2⟩
  | .edc, _, ⟨a, h1, h2, h3⟩ => ⟨a, h1, e.F _ h2, e.kF _ _ h2 h3⟩
  | .ins _ _ ds, _, ⟨a, C, d, vs, h1, h2, h3, h4, h5, h6⟩ => ⟨a, C, d, vs, h1, e.F _ h2, h3, e.kF _ _ h2 h4, RepL.mono e ds vs h5, h6.imp id fun ⟨dd, q1, q2, q3⟩ => ⟨dd, q1, e.F _ q2, e.kF _ _ q2 q3⟩⟩
theorem RepL.mono (e : PExt H g H' g') : ∀ (ds : List D) (vs : List V), RepL k H g ds vs → RepL k H' g' ds vs
  | [], _, h => h
  | d :: ds, _, ⟨v, r, h1, h2, h3⟩ => ⟨v, r, h1, Rep.mono e d v h2, RepL.mono e ds r h3⟩
end
mutual
theorem Rep.kc {k k' : Kx} (h1 : k'.K = k.K) (h2 : k'.mg = k.mg) : ∀ (d : D) (v : V), Rep k H g d v → Rep k' H g d v
  | .non, _, h => h
  | .bl _, _, h => h
  | .int _, _, h => h
  | .str _, _, h => h
  | .tup ds, _, ⟨a, vs, e1, e2, e3⟩ => ⟨a, vs, e1, by rw [h1]; exact e2, RepL.kc h1 h2 ds vs e3⟩
  | .lst ds, _, ⟨a, vs, e1, e2, e3, e4⟩ => ⟨a, vs, e1, e2, e3, RepL.kc h1 h2 ds vs e4⟩
  | .obj n, _, h => h
  | .gl _, _, ⟨a, e1, e2⟩ => ⟨a, by rw [h2]; exact e1, e2⟩
  | .ty _, _, h => h
  | .scr _, _, ⟨a, e1, e2⟩ => ⟨a, e1, by rw [h1]; exact e2⟩
  | .edc, _, h => h
  | .ins _ _ ds, _, ⟨a, C, d, vs, e1, e2, e3, e4, e5, e6⟩ => ⟨a, C, d, vs, e1, e2, by rw [h2]; exact e3, e4, RepL.kc h1 h2 ds vs e5, e6⟩
theorem RepL.kc {k k' : Kx} (h1 : k'.K = k.K) (h2 : k'.mg = k.mg) : ∀ (ds : List D) (vs : List V), RepL k H g ds vs → RepL k' H g ds vs
  | [], _, h => h
  | d :: ds, _, ⟨v, r, e1, e2, e3⟩ => ⟨v, r, e1, Rep.kc h1 h2 d v e2, RepL.kc h1 h2 ds r e3⟩
end
theorem RepL.nil : RepL k H g [] [] := rfl
theorem RepL.cons {d : D} {ds : List D} {v : V} {vs : List V} (h : Rep k H g d v) (t : RepL k H g ds vs) : RepL k H g (d :: ds) (v :: vs) := ⟨v, vs, rfl, h, t⟩
theorem RepL.length : ∀ {ds : List D} {vs : List V}, RepL k H g ds vs → vs.length = ds.length
  | [], _, h => by cases (show _ = [] from h); rfl
  | _ :: ds, _, ⟨v, r, h1, _, h3⟩ => by rw [h1, List.length_cons, List.length_cons, RepL.length h3]
theorem RepL.get : ∀ {ds : List D} {vs : List V} {i : Nat} {d : D}, RepL k H g ds vs → ds[i]? = some d → ∃ v, vs[i]? = some v ∧ Rep k H g d v
  | [], _, _, _, _, e => by simp at e
  | _ :: _, _, 0, _, ⟨v, r, h1, h2, _⟩, e => by
    simp at e; subst e; subst h1; exact ⟨v, rfl, h2⟩
  | _ :: ds, _, i + 1, d, ⟨v, r, h1, _, h3⟩, e => by
    subst h1
    obtain ⟨u, a, b⟩ := RepL.get (i := i) (d := d) h3 (by simpa using e)
    exact ⟨u, by simpa using a, b⟩
theorem RepL.append : ∀ {ds es : List D} {vs us : List V}, RepL k H g ds vs → RepL k H g es us → RepL k H g (ds ++ es) (vs ++ us)
  | [], _, _, _, h, t => by cases (show _ = [] from h); exact t
  | _ :: _, _, _, _, ⟨v, r, h1, h2, h3⟩, t => by subst h1; exact ⟨v, _, rfl, h2, RepL.append h3 t⟩
theorem RepL.take : ∀ {ds : List D} {vs : List V} (n : Nat), RepL k H g ds vs → RepL k H g (ds.take n) (vs.take n)
  | [], _, _, h => by cases (show _ = [] from h); simp; rfl
  | _ :: _, _, 0, ⟨v, r, h1, h2, h3⟩ => by subst h1; rfl
  | _ :: _, _, n + 1, ⟨v, r, h1, h2, h3⟩ => by subst h1; exact ⟨v, _, rfl, h2, RepL.take n h3⟩
theorem RepL.drop : ∀ {ds : List D} {vs : List V} (n : Nat), RepL k H g ds vs → RepL k H g (ds.drop n) (vs.drop n)
  | [], _, _, h => by cases (show _ = [] from h); simp; rfl
  | _ :: _, _, 0, h => h
  | _ :: _, _, n + 1, ⟨v, r, h1, h2, h3⟩ => by subst h1; exact RepL.drop n h3
theorem RepL.set : ∀ {ds : List D} {vs : List V} {d : D} {v : V} (i : Nat), RepL k H g ds vs → Rep k H g d v → RepL k H g (ds.set i d) (vs.set i v)
  | [], _, _, _, _, h, _ => by cases (show _ = [] from h); rfl
  | _ :: _, _, _, _, 0, ⟨v, r, h1, h2, h3⟩, q => by subst h1; exact ⟨_, _, rfl, q, h3⟩
  | _ :: _, _, _, _, i + 1, ⟨v, r, h1, h2, h3⟩, q => by subst h1; exact ⟨v, _, rfl, h2, RepL.set i h3 q⟩
theorem RepL.reverse {ds : List D} {vs : List V} (h : RepL k H g ds vs) : RepL k H g ds.reverse vs.reverse := by
  induction ds generalizing vs with
  | nil => cases (show _ = [] from h); rfl
  | cons d ds ih =>
    obtain ⟨v, r, rfl, h2, h3⟩ := h
    rw [List.reverse_cons, List.reverse_cons]
    exact (ih h3).append (.cons h2 .nil)
end
/-- the store stands in the heap -/
structure WF (k : Kx) (H : Hp) (g : G) (S : Sto) : Prop where
  len : S.length = g.n
  ob : ∀ (i : Nat) (o : O), S[i]? = some o → ORep k H g o (g.ρ i)
  inj : ∀ i j, i < g.n → j < g.n → g.ρ i = g.ρ j → i = j
  nF : ∀ i, i < g.n → ¬ g.F (g.ρ i)
  tF : ∀ a, g.F a → ∃ o, H a = some o
/-- an exception's class and its own dict -/
def XRep (k : Kx) (H : Hp) (g : G) (x : Exn) (c : Value) (d : Option Addr) : Prop :=
  ∃ C, k.mg x.cls = some (.ref C) ∧ c = .ref C ∧ ∀ f e, x.fs.lookup f = some e → ∃ a fs v, d = some a ∧ g.F a ∧ H a = some (.xd fs) ∧ fs.lookup f = some v ∧ Rep k H g e v
section
variable {k : Kx} {H H' : Hp} {g g' : G}
theorem XRep.mono (e : PExt H g H' g') {x : Exn} {c : Value} {d : Option Addr} (h : XRep k H g x c d) : XRep k H' g' x c d := by
  obtain ⟨C, h1, h2, h3⟩ := h
  refine ⟨C, h1, h2, fun f y q => ?_⟩
  obtain ⟨a, fs, v, e1, e2, e3, e4, e5⟩ := h3 f y q
  exact ⟨a, fs, v, e1, e.F _ e2, e.kF _ _ e2 e3, e4, e5.mono e _ _⟩
theorem XRep.kc {k k' : Kx} (h1 : k'.K = k.K) (h2 : k'.mg = k.mg) {x : Exn} {c : Value} {d : Option Addr} (h : XRep k H g x c d) : XRep k' H g x c d := by
  obtain ⟨C, a1, a2, a3⟩ := h
  refine ⟨C, by rw [h2]; exact a1, a2, fun f y q => ?_⟩
  obtain ⟨a, fs, v, e1, e2, e3, e4, e5⟩ := a3 f y q
  exact ⟨a, fs, v, e1, e2, e3, e4, Rep.kc h1 h2 _ _ e5⟩
theorem ORep.kc {k k' : Kx} (h1 : k'.K = k.K) (h2 : k'.mg = k.mg) (h3 : k'.w = k.w) {o : O} {a : Addr} (h : ORep k H g o a) : ORep k' H g o a := by
  cases o with
  | lst ds => obtain ⟨vs, e1, e2⟩ := h; exact ⟨vs, e1, RepL.kc h1 h2 _ _ e2⟩
  | dK kvs => obtain ⟨vs, e1, e2⟩ := h; exact ⟨vs, e1, RepL.kc h1 h2 _ _ e2⟩
  | dT kvs => obtain ⟨vs, e1, e2⟩ := h; exact ⟨vs, e1, RepL.kc h1 h2 _ _ e2⟩
  | ins c ns ds => obtain ⟨C, dx, vs, e0, e1, e2⟩ := h; exact ⟨C, dx, vs, by rw [h2]; exact e0, e1, RepL.kc h1 h2 _ _ e2⟩
  | dN kvs => obtain ⟨es, e1, e2, e3, e4, e5⟩ := h; exact ⟨es, by rw [h3]; exact e1, e2, e3, by rw [h1]; exact e4, RepL.kc h1 h2 _ _ e5⟩
theorem WF.kc {k k' : Kx} (h1 : k'.K = k.K) (h2 : k'.mg = k.mg) (h3 : k'.w = k.w) {S : Sto} (w : WF k H g S) : WF k' H g S := ⟨w.len, fun i o e => (w.ob i o e).kc h1 h2 h3, w.inj, w.nF, w.tF⟩
end
/-- the slots that hold the caught exception -/
def ExcRel (k : Kx) (σ : L2.St) (L : Ls) (H : Hp) (g : G) : Prop := ∀ (i : Nat) (x : Exn), L[i]? = some (.exc x) → ∃ a oe, k.cur = some (a, oe) ∧ σ[i]? = some (some (.ref a)) ∧ XRep k H g x oe.cls oe.dict
section
variable {k : Kx} {H H' : Hp} {g g' : G} {σ : L2.St} {L : Ls} {i : Nat} {lv : LV}
theorem ExcRel.mono (h : ExcRel k σ L H g) (e : PExt H g H' g') : ExcRel k σ L H' g' := fun i x q => by
  obtain ⟨a, oe, h1, h2, h3⟩ := h i x q
  exact ⟨a, oe, h1, h2, h3.mono e⟩
theorem exc_at {j : Nat} {x : Exn} (hlv : ∀ x, lv ≠ .exc x) (q : (L.set i lv)[j]? = some (.exc x)) : i ≠ j ∧ L[j]? = some (.exc x) := by
  by_cases hj : i = j
  · subst hj
    by_cases hl : i < L.length
    · rw [List.getElem?_set_self hl] at q
      exact absurd (Option.some.inj q) (hlv x)
    · rw [List.getElem?_eq_none (by rw [List.length_set]; omega)] at q; cases q
  · rw [List.getElem?_set_ne hj] at q
    exact ⟨hj, q⟩
theorem ExcRel.set {ov : Option V} (h : ExcRel k σ L H g) (hlv : ∀ x, lv ≠ .exc x) : ExcRel k (σ.set i ov) (L.set i lv) H g := fun j x q => by
  obtain ⟨hj, q⟩ := exc_at hlv q
  rw [List.getElem?_set_ne hj]
  exact h j x q
theorem ExcRel.setL (h : ExcRel k σ L H g) (hlv : ∀ x, lv ≠ .exc x) : ExcRel k σ (L.set i lv) H g := fun j x q => h j x (exc_at hlv q).2
end
/-- an object of the frame's own -/
def OwnAt (k : Kx) (H : Hp) (g : G) (a : Addr) (o : O) : Prop := ORep k H g o a ∧ ¬ g.F a ∧ ∀ i, i < g.n → g.ρ i ≠ a
structure LocRel (k : Kx) (σ : L2.St) (L : Ls) (H : Hp) (g : G) : Prop where
  len : σ.length = L.length
  val : ∀ (i : Nat) (d : D), L[i]? = some (.v d) → ∃ v, σ[i]? = some (some v) ∧ Rep k H g d v
  own : ∀ (i : Nat) (o : O), L[i]? = some (.o o) → ∃ a, σ[i]? = some (some (.ref a)) ∧ OwnAt k H g a o
  sep : ∀ (i j : Nat) (o u : O) (a : Addr), L[i]? = some (.o o) → L[j]? = some (.o u) → σ[i]? = some (some (.ref a)) → σ[j]? = some (some (.ref a)) → i = j
  exc : ExcRel k σ L H g
theorem ORep.tr {k : Kx} {H : Hp} {g : G} {o : O} {a : Addr} (h : ORep k H g o a) : ∃ u, H a = some u := by
  cases o with
  | lst ds => obtain ⟨vs, e, _⟩ := h; exact ⟨_, e⟩
  | dK kvs => obtain ⟨vs, e, _⟩ := h; exact ⟨_, e⟩
  | dT kvs => obtain ⟨vs, e, _⟩ := h; exact ⟨_, e⟩
  | ins c ns ds => obtain ⟨C, dx, vs, _, e, _⟩ := h; exact ⟨_, e⟩
  | dN kvs => obtain ⟨es, e, _⟩ := h; exact ⟨_, e⟩
theorem ORep.mono {k : Kx} {H H' : Hp} {g g' : G} {o : O} {a : Addr} (e : PExt H g H' g') (hk : ∀ o, H a = some o → H' a = some o) (h : ORep k H g o a) : ORep k H' g' o a := by
  cases o with
  | lst ds => obtain ⟨vs, q, r⟩ := h; exact ⟨vs, hk _ q, r.mono e _ _⟩
  | dK kvs => obtain ⟨vs, q, r⟩ := h; exact ⟨vs, hk _ q, r.mono e _ _⟩
  | dT kvs => obtain ⟨vs, q, r⟩ := h; exact ⟨vs, hk _ q, r.mono e _ _⟩
  | ins c ns ds => obtain ⟨C, dx, vs, q0, q, r⟩ := h; exact ⟨C, dx, vs, q0, hk _ q, r.mono e _ _⟩
  | dN kvs => obtain ⟨es, q, e1, e2, e3, r⟩ := h; exact ⟨es, hk _ q, e1, e2, e3.at e.kT, r.mono e _ _⟩
theorem OwnAt.ext {k : Kx} {H H' : Hp} {g g' : G} {o : O} {a : Addr} (e : Ext H g H' g') (h : OwnAt k H g a o) : OwnAt k H' g' a o := by
  obtain ⟨h1, h2, h3⟩ := h
  obtain ⟨u, hu⟩ := h1.tr
  refine ⟨h1.mono e.toPExt fun o q => e.keep a o q h3, fun f => ?_, fun i hi q => ?_⟩
  · rcases e.newF a f with f | f
    · exact h2 f
    · rw [hu] at f; cases f
  · by_cases hi' : i < g.n
    · exact h3 i hi' ((e.ρ i hi').symm.trans q)
    · have z := e.newρ i (Nat.le_of_not_lt hi') hi
      rw [q, hu] at z; cases z
theorem LocRel.ext {k : Kx} {σ : L2.St} {L : Ls} {H H' : Hp} {g g' : G} (r : LocRel k σ L H g) (e : Ext H g H' g') : LocRel k σ L H' g' where
  len := r.len
  val := fun i d h => by
    obtain ⟨v, a, b⟩ := r.val i d h
    exact ⟨v, a, b.mono e.toPExt _ _⟩
  own := fun i o h => by
    obtain ⟨a, h1, h2⟩ := r.own i o h
    exact ⟨a, h1, h2.ext e⟩
  sep := r.sep
  exc := r.exc.mono e.toPExt
def G.frz (g : G) (a : Addr) : G := { g with F := fun b => b = a ∨ g.F b }
def G.push (g : G) (a : Addr) : G := { g with ρ := fun i => if i = g.n then a else g.ρ i, n := g.n + 1 }
section
variable {k : Kx} {H : Hp} {g : G} {S : Sto} {p : Addr} {o : HO}
theorem Ext.new (h : H p = none) : Ext H g (upd H p o) g where
  toPExt := ⟨fun _ h => h, fun a u _ q => by rw [upd_ne (ne_of_none q h)]; exact q, fun a xs q => by rw [upd_ne (ne_of_none q h)]; exact q, fun a u x q => by rw [upd_ne (ne_of_none q h)]; exact q, Nat.le_refl _, fun _ _ => rfl⟩
  keep := fun a u q _ => by rw [upd_ne (ne_of_none q h)]; exact q
  newF := fun _ h => .inl h
  newρ := fun i h1 h2 => absurd h2 (Nat.not_lt.mpr h1)
  tr := fun a u q => ⟨u, by rw [upd_ne (ne_of_none q h)]; exact q⟩
theorem PExt.frz : PExt H g H (g.frz p) := ⟨fun _ h => .inr h, fun _ _ _ h => h, fun _ _ h => h, fun _ _ _ h => h, Nat.le_refl _, fun _ _ => rfl⟩
theorem Ext.newFrz (h : H p = none) : Ext H g (upd H p o) (g.frz p) where
  toPExt := (Ext.new h).toPExt.trans PExt.frz
  keep := (Ext.new h).keep
  newF := fun a f => by
    rcases f with rfl | f
    · exact .inr h
    · exact .inl f
  newρ := fun i h1 h2 => absurd h2 (Nat.not_lt.mpr h1)
  tr := (Ext.new (o := o) (g := g) h).tr
theorem Ext.newPush (h : H p = none) : Ext H g (upd H p o) (g.push p) where
  toPExt := (Ext.new h).toPExt.trans ⟨fun _ h => h, fun _ _ _ h => h, fun _ _ h => h, fun _ _ _ h => h, Nat.le_succ _, fun i hi => if_neg (Nat.ne_of_lt hi)⟩
  keep := (Ext.new (g := g) h).keep
  newF := fun _ f => .inl f
  newρ := fun i h1 h2 => by
    have e : i = g.n := Nat.le_antisymm (Nat.le_of_lt_succ h2) h1
    show H (if i = g.n then p else g.ρ i) = none
    rw [if_pos e]; exact h
  tr := (Ext.new (o := o) (g := g) h).tr
theorem WF.ρt (w : WF k H g S) {i : Nat} (hi : i < g.n) : ∃ o, H (g.ρ i) = some o := by
  obtain ⟨o, e⟩ : ∃ o, S[i]? = some o := ⟨_, List.getElem?_eq_getElem (by rw [w.len]; exact hi)⟩
  exact (w.ob i o e).tr
theorem WF.new (w : WF k H g S) (h : H p = none) : WF k (upd H p o) g S where
  len := w.len
  ob := fun i u e => (w.ob i u e).mono (Ext.new h).toPExt fun o q => by rw [upd_ne (ne_of_none q h)]; exact q
  inj := w.inj
  nF := w.nF
  tF := fun a f => by
    obtain ⟨u, e⟩ := w.tF a f
    exact ⟨u, by rw [upd_ne (ne_of_none e h)]; exact e⟩
theorem WF.newFrz (w : WF k H g S) (h : H p = none) : WF k (upd H p o) (g.frz p) S where
  len := w.len
  ob := fun i u e => ((w.new (o := o) h).ob i u e).mono PExt.frz fun _ q => q
  inj := w.inj
  nF := fun i hi f => by
    rcases f with f | f
    · obtain ⟨u, e⟩ := w.ρt hi
      rw [show g.ρ i = p from f, h] at e; cases e
    · exact w.nF i hi f
  tF := fun a f => by
    rcases f with rfl | f
    · exact ⟨o, upd_same⟩
    · exact (w.new h).tF a f
theorem WF.newPush {ob : O} (w : WF k H g S) (h : H p = none) (r : ORep k (upd H p o) (g.push p) ob p) : WF k (upd H p o) (g.push p) (S ++ [ob]) where
  len := by rw [List.length_append, w.len]; rfl
  ob := fun i u e => by
    by_cases hi : i < g.n
    · rw [List.getElem?_append_left (by rw [w.len]; exact hi)] at e
      show ORep k _ _ u (if i = g.n then p else g.ρ i)
      rw [if_neg (Nat.ne_of_lt hi)]
      exact (w.ob i u e).mono (Ext.newPush h).toPExt fun o q => by rw [upd_ne (ne_of_none q h)]; exact q
    · rw [List.getElem?_append_right (by rw [w.len]; exact Nat.le_of_not_lt hi), w.len] at e
      have e0 : i - g.n = 0 := by
        rcases Nat.eq_zero_or_pos (i - g.n) with z | z
        · exact z
        · rw [List.getElem?_eq_none (by simp only [List.length_singleton]; omega)] at e; cases e
      have ei : i = g.n := by omega
      rw [e0] at e
      cases e
      show ORep k _ _ ob (if i = g.n then p else g.ρ i)
      rw [if_pos ei]
      exact r
  inj := fun i j hi hj e => by
    have e' : (if i = g.n then p else g.ρ i) = (if j = g.n then p else g.ρ j) := e
    by_cases h1 : i = g.n
    · by_cases h2 : j = g.n
      · omega
      · rw [if_pos h1, if_neg h2] at e'
        obtain ⟨u, q⟩ := w.ρt (show j < g.n by have : j < g.n + 1 := hj; omega)
        rw [← e', h] at q; cases q
    · by_cases h2 : j = g.n
      · rw [if_neg h1, if_pos h2] at e'
        obtain ⟨u, q⟩ := w.ρt (show i < g.n by have : i < g.n + 1 := hi; omega)
        rw [e', h] at q; cases q
      · rw [if_neg h1, if_neg h2] at e'
        have h3 : i < g.n + 1 := hi
        have h4 : j < g.n + 1 := hj
        exact w.inj i j (by omega) (by omega) e'
  nF := fun i hi f => by
    have f' : g.F (if i = g.n then p else g.ρ i) := f
    by_cases h1 : i = g.n
    · rw [if_pos h1] at f'
      obtain ⟨u, q⟩ := w.tF _ f'
      rw [h] at q; cases q
    · rw [if_neg h1] at f'
      have h3 : i < g.n + 1 := hi
      exact w.nF i (by omega) f'
  tF := fun a f => (w.new h).tF a f
end
end Rf
set_option Elab.async false
set_option linter.all false
set_option maxRecDepth 100000
namespace Rf
open PySem L2
abbrev kx (X : Cx) : Kx := ⟨X.K, X.mg, if X.calm = true then none else X.pn.head?, X.w⟩
theorem kx_calm {X : Cx} (h : X.calm = true) : kx X = k0 X.K X.mg X.w := by unfold kx; rw [if_pos h]
def Post {α β : Type} (k : Kx) (P : Hp → G → α → β → Prop) (H : Hp) (g : G) (W : Value → Option Addr → Hp → Prop) (r : R α) (Q : β → Hp → Prop) : Prop := match r with
  | .ok a S => ∀ b H' g', Ext H g H' g' → WF k H' g' S → P H' g' a b → Q b H'
  | .ex x S => ∀ c d H' g', Ext H g H' g' → WF k H' g' S → XRep k H' g' x c d → W c d H'
  | .no => False
section
variable {α β α' β' : Type} {k : Kx} {P : Hp → G → α → β → Prop} {P' : Hp → G → α' → β' → Prop} {H H' : Hp} {g g' : G} {W : Value → Option Addr → Hp → Prop} {r : R α} {f : α → Sto → R α'} {Q : β → Hp → Prop} {Q' : β' → Hp → Prop}
theorem Post.from (h : Post k P H g W r Q) (e : Ext H g H' g') : Post k P H' g' W r Q := by
  cases r with
  | ok a S => exact fun b H2 g2 e2 w p => h b H2 g2 (e.trans e2) w p
  | ex x S => exact fun c d H2 g2 e2 w p => h c d H2 g2 (e.trans e2) w p
  | no => exact h
theorem Post.bind (h : Post k P' H g W (r.bind f) Q') (hk : ∀ a S b H' g', Ext H g H' g' → WF k H' g' S → P H' g' a b → Post k P' H' g' W (f a S) Q' → Q b H') : Post k P H g W r Q := by
  cases r with
  | ok a S => exact fun b H2 g2 e w p => hk a S b H2 g2 e w p (Post.from h e)
  | ex x S => exact h
  | no => exact h
theorem Post.kc {d : R D} {Q : V → Hp → Prop} {k k' : Kx} (h1 : k'.K = k.K) (h2 : k'.mg = k.mg) (h3 : k'.w = k.w) (h : Post k (Rep k) H g W d Q) : Post k' (Rep k') H g W d Q := by
  cases d with
  | ok a S => exact fun b H2 g2 e w p => h b H2 g2 e (w.kc h1.symm h2.symm h3.symm) (Rep.kc h1.symm h2.symm _ _ p)
  | ex x S => exact fun c d H2 g2 e w p => h c d H2 g2 e (w.kc h1.symm h2.symm h3.symm) (p.kc h1.symm h2.symm)
  | no => exact h
theorem Post.ret {a : α} {b : β} {S : Sto} (h : Post k P H g W (.ok a S) Q) (w : WF k H g S) (p : P H g a b) : Q b H := h b H g (Ext.refl H g) w p
end
/-- a list in the store by its items -/
@[reducible] def deref (S : Sto) : D → D
  | .obj n => match S[n]? with
    | some (.lst ds) => .lst ds
    | _ => .obj n
  | d => d
/-- what may be looked into: like Rep, but a list need not be one that is never written again -/
def CRep (k : Kx) (H : Hp) (g : G) : D → V → Prop
  | .lst ds, v => ∃ a vs, v = .ref a ∧ H a = some (.lst vs) ∧ RepL k H g ds vs
  | d, v => Rep k H g d v
/-- an operand: a value, or an own object of the frame -/
def PkRep (k : Kx) (σ : L2.St) (L : Ls) (H : Hp) (g : G) (d : D) (v : V) : Prop :=
  Rep k H g d v ∨ ∃ (i : Nat) (ds : List D), L[i]? = some (.o (.lst ds)) ∧ d = .lst ds ∧ σ[i]? = some (some v)
section
variable {k : Kx} {σ : L2.St} {L : Ls} {H H' : Hp} {g g' : G} {S : Sto} {d : D} {v : V}
theorem Rep.c (h : Rep k H g d v) : CRep k H g d v := by
  cases d with
  | lst ds => obtain ⟨a, vs, h1, _, h3, h4⟩ := h; exact ⟨a, vs, h1, h3, h4⟩
  | _ => exact h
theorem PkRep.ext (h : PkRep k σ L H g d v) (e : PExt H g H' g') : PkRep k σ L H' g' d v := by
  rcases h with h | h
  · exact .inl (h.mono e _ _)
  · exact .inr h
theorem PkRep.c (h : PkRep k σ L H g d v) (l : LocRel k σ L H g) (w : WF k H g S) : CRep k H g (deref S d) v := by
  rcases h with h | ⟨i, ds, h1, rfl, h3⟩
  · cases d with
    | obj n =>
      obtain ⟨hn, rfl⟩ := h
      show CRep k H g (match S[n]? with | some (.lst ds) => .lst ds | _ => .obj n) _
      cases q : S[n]? with
      | none => exact ⟨hn, rfl⟩
      | some o =>
        cases o with
        | lst ds =>
          obtain ⟨vs, a, b⟩ := w.ob n _ q
          exact ⟨_, vs, rfl, a, b⟩
        | _ => exact ⟨hn, rfl⟩
    | _ => exact Rep.c h
  · obtain ⟨a, q, ⟨vs, e, r⟩, _⟩ := l.own i _ h1
    rw [h3] at q
    cases q
    exact ⟨a, vs, rfl, e, r⟩
end
section
variable (k : Kx) (W : WX)
def tE (m : EM) : TE := fun σ H Q => ∃ L S g, LocRel k σ L H g ∧ WF k H g S ∧ Post k (Rep k) H g (fun c d => W c d σ) (m L S) Q
def tP (m : EM) : TE := fun σ H Q => ∃ L S g, LocRel k σ L H g ∧ WF k H g S ∧ Post k (PkRep k σ L) H g (fun c d => W c d σ) (m L S) Q
/-- a new list: its items -/
def FRep (H : Hp) (H' : Hp) (g' : G) (ds : List D) (v : V) : Prop := ∃ a, v = .ref a ∧ H a = none ∧ OwnAt k H' g' a (.lst ds)
def tF (m : Ls → Sto → R (List D)) : TE := fun σ H Q => ∃ L S g, LocRel k σ L H g ∧ WF k H g S ∧ Post k (FRep k H) H g (fun c d => W c d σ) (m L S) Q
def tT (m : Ls → Sto → R Bool) : TT := fun σ H Q => ∃ L S g, LocRel k σ L H g ∧ WF k H g S ∧ Post k (fun _ _ (b c : Bool) => c = b) H g (fun c d => W c d σ) (m L S) Q
def PkL (σ : L2.St) (L : Ls) (H : Hp) (g : G) : List D → List V → Prop
  | [], vs => vs = []
  | d :: ds, vs => ∃ v r, vs = v :: r ∧ PkRep k σ L H g d v ∧ PkL σ L H g ds r
def tA (m : Ls → Sto → R (List D)) : TA := fun σ H Q => ∃ L S g, LocRel k σ L H g ∧ WF k H g S ∧ Post k (PkL k σ L) H g (fun c d => W c d σ) (m L S) Q
end
theorem PE.imp {X : Cx} {e : Expr} {t t' : TE} (h : PE X e t) (i : ∀ σ H Q, t' σ H Q → t σ H Q) : PE X e t' := ⟨fun pins s σ H Q I q => h.run pins s σ H Q I (i σ H Q q)⟩
theorem PT.imp {X : Cx} {e : Expr} {t t' : TT} (h : PT X e t) (i : ∀ σ H Q, t' σ H Q → t σ H Q) : PT X e t' := ⟨fun pins s σ H Q I q => h.run pins s σ H Q I (i σ H Q q)⟩
theorem PA.imp {X : Cx} {e : List Expr} {t t' : TA} (h : PA X e t) (i : ∀ σ H Q, t' σ H Q → t σ H Q) : PA X e t' := ⟨fun pos pins s σ H Q I q => h.run pos pins s σ H Q I (i σ H Q q)⟩
abbrev SE (X : Cx) (W : WX) (e : Expr) (m : EM) : Prop := PE X e (tE (kx X) W m)
abbrev SP (X : Cx) (W : WX) (e : Expr) (m : EM) : Prop := PE X e (tP (kx X) W m)
abbrev SF (X : Cx) (W : WX) (e : Expr) (m : Ls → Sto → R (List D)) : Prop := PE X e (tF (kx X) W m)
abbrev ST (X : Cx) (W : WX) (e : Expr) (m : Ls → Sto → R Bool) : Prop := PT X e (tT (kx X) W m)
abbrev SA (X : Cx) (W : WX) (es : List Expr) (m : Ls → Sto → R (List D)) : Prop := PA X es (tA (kx X) W m)
section
variable {X : Cx} {W : WX} {e a b : Expr} {es : List Expr} {m ma mb : EM}
theorem SE.pk (h : SE X W e m) : SP X W e m := PE.imp h fun σ H Q ⟨L, S, g, l, w, p⟩ => ⟨L, S, g, l, w, by
  cases q : m L S with
  | ok d S' => rw [q] at p; exact fun v H' g' e w r => p v H' g' e w (.inl r)
  | ex x S' => rw [q] at p; exact p
  | no => rw [q] at p; exact p⟩
def eVar (i : Nat) : EM := fun L S => match L[i]? with
  | some (.v d) => .ok d S
  | _ => .no
def pVar (i : Nat) : EM := fun L S => match L[i]? with
  | some (.v d) => .ok d S
  | some (.o (.lst ds)) => .ok (.lst ds) S
  | _ => .no
def eC (d : D) : EM := fun _ S => .ok d S
theorem se_var {i : Nat} {x : Str} {pos : Pos} (h : PE X (.Name x pos) (tVar i)) : SE X W (.Name x pos) (eVar i) := PE.imp h fun σ H Q ⟨L, S, g, l, w, p⟩ => by
  unfold eVar at p
  cases q : L[i]? with
  | none => rw [q] at p; exact p.elim
  | some lv =>
    rw [q] at p
    cases lv with
    | v d =>
      obtain ⟨v, e1, r⟩ := l.val i d q
      exact ⟨v, e1, Post.ret p w r⟩
    | _ => exact p.elim
theorem sp_var {i : Nat} {x : Str} {pos : Pos} (h : PE X (.Name x pos) (tVar i)) : SP X W (.Name x pos) (pVar i) := PE.imp h fun σ H Q ⟨L, S, g, l, w, p⟩ => by
  unfold pVar at p
  cases q : L[i]? with
  | none => rw [q] at p; exact p.elim
  | some lv =>
    rw [q] at p
    cases lv with
    | v d =>
      obtain ⟨v, e1, r⟩ := l.val i d q
      exact ⟨v, e1, Post.ret p w (.inl r)⟩
    | o o =>
      cases o with
      | lst ds =>
        obtain ⟨v, e1, r⟩ := l.own i _ q
        exact ⟨_, e1, Post.ret p w (.inr ⟨i, ds, q, rfl, e1⟩)⟩
      | _ => exact p.elim
    | un => exact p.elim
    | exc x => exact p.elim
theorem se_const {d : D} {v : V} (h : PE X e (tC v)) (r : ∀ H g, Rep (kx X) H g d v) : SE X W e (eC d) := PE.imp h fun σ H Q ⟨L, S, g, l, w, p⟩ => Post.ret p w (r H g)
/-- an operation on contents -/
def OpC (X : Cx) (f : Value → Value → Sem Value) (o : D → D → Option D) : Prop :=
  ∀ (d e res : D), o d e = some res → OpR X f (fun x y H Q => ∃ g S, WF (kx X) H g S ∧ CRep (kx X) H g d x ∧ CRep (kx X) H g e y ∧
    ∀ v H' g', Ext H g H' g' → WF (kx X) H' g' S → Rep (kx X) H' g' res v → Q v H')
def lift {α : Type} (o : Option α) (S : Sto) : R α := match o with
  | some a => .ok a S
  | none => .no
def eBin (o : D → D → Option D) (ma mb : EM) : EM := fun L S => (ma L S).bind fun x S1 => (mb L S1).bind fun y S2 => lift (o (deref S2 x) (deref S2 y)) S2
theorem OpR.ex {f : Value → Value → Sem Value} {o : D → D → Option D} (h : OpC X f o) : OpR X f (fun x y H Q => ∃ g S d e res, WF (kx X) H g S ∧ CRep (kx X) H g d x ∧ CRep (kx X) H g e y ∧ o d e = some res ∧
    ∀ v H' g', Ext H g H' g' → WF (kx X) H' g' S → Rep (kx X) H' g' res v → Q v H') := by
  intro pins s σ H x y v u Q I rx ry q
  obtain ⟨g, S, d, e, res, w, c1, c2, q1, q2⟩ := q
  exact h d e res q1 pins s σ H x y v u Q I rx ry ⟨g, S, w, c1, c2, q2⟩
/-- the bind of two operands, for the readings of two expressions -/
theorem two_ops {k : Kx} {o : D → D → Option D} {σ : L2.St} {H : Hp} {Q : VK} {Wf : WX} (h : tE k Wf (eBin o ma mb) σ H Q) :
    tP k Wf ma σ H fun x H1 => tP k Wf mb σ H1 fun y H2 => ∃ g S d e res, WF k H2 g S ∧ CRep k H2 g d x ∧ CRep k H2 g e y ∧ o d e = some res ∧
      ∀ v H' g', Ext H2 g H' g' → WF k H' g' S → Rep k H' g' res v → Q v H' := by
  obtain ⟨L, S, g, l, w, p⟩ := h
  refine ⟨L, S, g, l, w, Post.bind p fun x S1 xv H1 g1 e1 w1 r1 p1 => ?_⟩
  refine ⟨L, S1, g1, l.ext e1, w1, Post.bind p1 fun y S2 yv H2 g2 e2 w2 r2 p2 => ?_⟩
  have l2 := (l.ext e1).ext e2
  cases q : o (deref S2 x) (deref S2 y) with
  | none => rw [q] at p2; exact p2.elim
  | some res =>
    rw [q] at p2
    exact ⟨g2, S2, _, _, res, w2, (r1.ext e2.toPExt).c l2 w2, r2.c l2 w2, q, p2⟩
theorem se_bin {op : Operator} {o : D → D → Option D} {pos : Pos} (h : OpC X (binaryOp op) o) (ha : SP X W a ma) (hb : SP X W b mb) : SE X W (.BinOp a op b pos) (eBin o ma mb) :=
  PE.imp (pe_op (OpR.ex h) ha hb) fun σ H Q q => two_ops q
theorem se_cmp {op : CmpOp} {o : D → D → Option D} {pos : Pos} (h : OpC X (compareOp op) o) (ha : SP X W a ma) (hb : SP X W b mb) (hm : behindInMarks op b = false) : SE X W (.Compare a [op] [b] pos) (eBin o ma mb) :=
  PE.imp (pe_cmpR (OpR.ex h) ha hb hm) fun σ H Q q => two_ops q
/-- a test's answer must be a truth -/
def tOfE (m : EM) : Ls → Sto → R Bool := fun L S => (m L S).bind fun d S1 => match d with
  | .bl b => .ok b S1
  | _ => .no
theorem tt_of {k : Kx} {σ : L2.St} {H : Hp} {Q : Bool → Hp → Prop} {Wf : WX} (h : tT k Wf (tOfE m) σ H Q) : tE k Wf m σ H fun x H' => ∃ c, x = .bl c ∧ Q c H' := by
  obtain ⟨L, S, g, l, w, p⟩ := h
  refine ⟨L, S, g, l, w, Post.bind p fun d S1 v H1 g1 e1 w1 r1 p1 => ?_⟩
  cases d with
  | bl b => exact ⟨b, r1, Post.ret p1 w1 rfl⟩
  | _ => exact p1.elim
theorem st_cmp {op : CmpOp} {o : D → D → Option D} {pos : Pos} (h : OpC X (compareOp op) o) (ha : SP X W a ma) (hb : SP X W b mb) (hm : behindInMarks op b = false) : ST X W (.Compare a [op] [b] pos) (tOfE (eBin o ma mb)) :=
  PT.imp (pt_cmpR (OpR.ex h) ha hb hm) fun σ H Q q => two_ops (tt_of q)
end
end Rf
set_option Elab.async false
set_option linter.all false
set_option maxRecDepth 100000
namespace Rf
open PySem L2
mutual
def toPy : D → Option PyData
  | .non => some .none
  | .bl b => some (.bool b)
  | .int i => some (.int i)
  | .str x => some (.str ⟨x.toArray⟩)
  | .tup ds => (toPyL ds).map .tuple
  | .lst ds => (toPyL ds).map .list
  | _ => none
def toPyL : List D → Option (List PyData)
  | [] => some []
  | d :: ds => match toPy d, toPyL ds with
    | some p, some ps => some (p :: ps)
    | _, _ => none
end
def shp (d : D) : Bool := match toPy d with
  | some p => SeqAt.shaped p
  | none => false
theorem shp_get {d : D} (h : shp d = true) : ∃ p, toPy d = some p ∧ SeqAt.shaped p = true := by
  unfold shp at h
  split at h
  · rename_i p e; exact ⟨p, e, h⟩
  · cases h
mutual
def eqv : D → D → Bool
  | .non, .non => true
  | .bl a, .bl b => a == b
  | .bl a, .int j => (if a then 1 else 0) == j
  | .int i, .bl b => i == (if b then 1 else 0)
  | .int i, .int j => i == j
  | .str x, .str y => x == y
  | .lst xs, .lst ys => eqvL xs ys
  | .tup xs, .tup ys => eqvL xs ys
  | _, _ => false
def eqvL : List D → List D → Bool
  | [], [] => true
  | x :: xs, y :: ys => eqv x y && eqvL xs ys
  | _, _ => false
end
theorem str_beq (x y : List Nat) : ((⟨x.toArray⟩ : Str) == ⟨y.toArray⟩) = (x == y) := by
  rw [Bool.eq_iff_iff, beq_iff_eq, beq_iff_eq]
  constructor
  · intro h
    have := congrArg (fun z : Str => z.cps.toList) h
    simpa using this
  · rintro rfl; rfl
mutual
theorem eqv_py : ∀ (d e : D) (p q : PyData), toPy d = some p → toPy e = some q → PyData.eqv p q = eqv d e
  | .non, e, p, q, h1, h2 => by
    cases h1
    cases e with
    | tup es => simp only [toPy, Option.map_eq_some_iff] at h2; obtain ⟨x, _, rfl⟩ := h2; rfl
    | lst es => simp only [toPy, Option.map_eq_some_iff] at h2; obtain ⟨x, _, rfl⟩ := h2; rfl
    | obj _ => cases h2
    | gl _ => cases h2
    | ty _ => cases h2
    | scr _ => cases h2
    | edc => cases h2
    | ins _ _ _ => cases h2
    | _ => cases h2; rfl
  | .bl b, e, p, q, h1, h2 => by
    cases h1
    cases e with
    | tup es => simp only [toPy, Option.map_eq_some_iff] at h2; obtain ⟨x, _, rfl⟩ := h2; rfl
    | lst es => simp only [toPy, Option.map_eq_some_iff] at h2; obtain ⟨x, _, rfl⟩ := h2; rfl
    | obj _ => cases h2
    | gl _ => cases h2
    | ty _ => cases h2
    | scr _ => cases h2
    | edc => cases h2
    | ins _ _ _ => cases h2
    | _ => cases h2; first | rfl | (simp only [PyData.eqv, eqv])
  | .int b, e, p, q, h1, h2 => by
    cases h1
    cases e with
    | tup es => simp only [toPy, Option.map_eq_some_iff] at h2; obtain ⟨x, _, rfl⟩ := h2; rfl
    | lst es => simp only [toPy, Option.map_eq_some_iff] at h2; obtain ⟨x, _, rfl⟩ := h2; rfl
    | obj _ => cases h2
    | gl _ => cases h2
    | ty _ => cases h2
    | scr _ => cases h2
    | edc => cases h2
    | ins _ _ _ => cases h2
    | _ => cases h2; first | rfl | (simp only [PyData.eqv, eqv])
  | .str b, e, p, q, h1, h2 => by
    cases h1
    cases e with
    | tup es => simp only [toPy, Option.map_eq_some_iff] at h2; obtain ⟨x, _, rfl⟩ := h2; rfl
    | lst es => simp only [toPy, Option.map_eq_some_iff] at h2; obtain ⟨x, _, rfl⟩ := h2; rfl
    | obj _ => cases h2
    | gl _ => cases h2
    | ty _ => cases h2
    | scr _ => cases h2
    | edc => cases h2
    | ins _ _ _ => cases h2
    | str c => cases h2; simp only [PyData.eqv, eqv]; exact str_beq b c
    | _ => cases h2; first | rfl | (simp only [PyData.eqv, eqv])
  | .tup ds, e, p, q, h1, h2 => by
    simp only [toPy, Option.map_eq_some_iff] at h1
    obtain ⟨ps, h1, rfl⟩ := h1
    cases e with
    | tup es =>
      simp only [toPy, Option.map_eq_some_iff] at h2
      obtain ⟨qs, h2, rfl⟩ := h2
      simp only [PyData.eqv, eqv]
      exact eqv_pyL ds es ps qs h1 h2
    | lst es => simp only [toPy, Option.map_eq_some_iff] at h2; obtain ⟨x, _, rfl⟩ := h2; rfl
    | obj _ => cases h2
    | gl _ => cases h2
    | ty _ => cases h2
    | scr _ => cases h2
    | edc => cases h2
    | ins _ _ _ => cases h2
    | _ => cases h2; rfl
  | .lst ds, e, p, q, h1, h2 => by
    simp only [toPy, Option.map_eq_some_iff] at h1
    obtain ⟨ps, h1, rfl⟩ := h1
    cases e with
    | lst es =>
      simp only [toPy, Option.map_eq_some_iff] at h2
      obtain ⟨qs, h2, rfl⟩ := h2
      simp only [PyData.eqv, eqv]
      exact eqv_pyL ds es ps qs h1 h2
    | tup es => simp only [toPy, Option.map_eq_some_iff] at h2; obtain ⟨x, _, rfl⟩ := h2; rfl
    | obj _ => cases h2
    | gl _ => cases h2
    | ty _ => cases h2
    | scr _ => cases h2
    | edc => cases h2
    | ins _ _ _ => cases h2
    | _ => cases h2; rfl
theorem eqv_pyL : ∀ (ds es : List D) (ps qs : List PyData), toPyL ds = some ps → toPyL es = some qs → PyData.eqvAll ps qs = eqvL ds es
  | [], [], ps, qs, h1, h2 => by cases h1; cases h2; rfl
  | [], e :: es, ps, qs, h1, h2 => by
    cases h1
    simp only [toPyL] at h2
    split at h2
    · cases h2; rfl
    · cases h2
  | d :: ds, [], ps, qs, h1, h2 => by
    cases h2
    simp only [toPyL] at h1
    split at h1
    · cases h1; rfl
    · cases h1
  | d :: ds, e :: es, ps, qs, h1, h2 => by
    simp only [toPyL] at h1 h2
    split at h1
    · rename_i p ps' a1 a2
      cases h1
      split at h2
      · rename_i q qs' b1 b2
        cases h2
        simp only [PyData.eqvAll, eqvL]
        rw [eqv_py d e p q a1 b1, eqv_pyL ds es ps' qs' a2 b2]
      · cases h2
    · cases h1
end
section
variable {k : Kx} {H : Hp} {g : G}
mutual
theorem Rep.dp : ∀ (d : D) (v : V) (p : PyData), Rep k H g d v → toPy d = some p → Dp k.K H v p
  | .non, v, p, h, e => by cases (show v = .non from h); cases e; exact .non
  | .bl b, v, p, h, e => by cases (show v = .bl b from h); cases e; exact .bl b
  | .int i, v, p, h, e => by cases (show v = .int i from h); cases e; exact .int i
  | .str x, v, p, h, e => by cases (show v = .str ⟨x.toArray⟩ from h); cases e; exact .str _
  | .tup ds, v, p, ⟨a, vs, h1, h2, h3⟩, e => by
    simp only [toPy, Option.map_eq_some_iff] at e
    obtain ⟨ps, e, rfl⟩ := e
    subst h1
    exact .tup h2.sq (RepL.dp ds vs ps h3 e)
  | .lst ds, v, p, ⟨a, vs, h1, _, h2, h3⟩, e => by
    simp only [toPy, Option.map_eq_some_iff] at e
    obtain ⟨ps, e, rfl⟩ := e
    subst h1
    exact .lst (SqL.of h2) (RepL.dp ds vs ps h3 e)
  | .obj _, _, _, _, e => by cases e
  | .gl _, _, _, _, e => by cases e
  | .ty _, _, _, _, e => by cases e
  | .scr _, _, _, _, e => by cases e
theorem RepL.dp : ∀ (ds : List D) (vs : List V) (ps : List PyData), RepL k H g ds vs → toPyL ds = some ps → DpAll k.K H vs ps
  | [], vs, ps, h, e => by cases (show vs = [] from h); cases e; exact .nil
  | d :: ds, vs, ps, ⟨v, r, h1, h2, h3⟩, e => by
    simp only [toPyL] at e
    split at e
    · rename_i p ps' a1 a2
      cases e
      subst h1
      exact .cons (Rep.dp d v p h2 a1) (RepL.dp ds r ps' h3 a2)
    · cases e
end
theorem CRep.dp {d : D} {v : V} {p : PyData} (h : CRep k H g d v) (e : toPy d = some p) : Dp k.K H v p := by
  cases d with
  | lst ds =>
    obtain ⟨a, vs, h1, h2, h3⟩ := h
    simp only [toPy, Option.map_eq_some_iff] at e
    obtain ⟨ps, e, rfl⟩ := e
    subst h1
    exact .lst (SqL.of h2) (RepL.dp ds vs ps h3 e)
  | _ => exact Rep.dp _ v p h e
end
/-- two flat values -/
def flatEq : D → D → Option Bool
  | .non, .non => some true
  | .non, .int _ => some false | .int _, .non => some false | .non, .bl _ => some false | .bl _, .non => some false
  | .non, .str _ => some false | .str _, .non => some false
  | .int a, .int b => some (a == b)
  | .bl a, .bl b => some (a == b)
  | .str a, .str b => some (a == b)
  | .int _, .str _ => some false | .str _, .int _ => some false | .bl _, .str _ => some false | .str _, .bl _ => some false
  | _, _ => none
def eqB (d e : D) : Option Bool := match flatEq d e with
  | some b => some b
  | none => if shp d && shp e then some (eqv d e) else none
/-- a tuple and the empty one -/
def nilEq : D → D → Option Bool
  | .tup ds, .tup [] => some ds.isEmpty
  | _, _ => none
def cEq (d e : D) : Option D := ((eqB d e).or (nilEq d e)).map .bl
def cNe (d e : D) : Option D := (eqB d e).map fun b => .bl (!b)
section
variable {X : Cx} {g : G} {S : Sto} {H : Hp} {d e res : D} {Q : VK}
/-- an answer without a new object -/
theorem scalar_fin {v : V} (q : ∀ v H' g', Ext H g H' g' → WF (kx X) H' g' S → Rep (kx X) H' g' res v → Q v H') (w : WF (kx X) H g S) (r : Rep (kx X) H g res v) : Q v H := q v H g (Ext.refl H g) w r
theorem tup_fin {ds : List D} {vs : List V} {p : Addr} (q : ∀ v H' g', Ext H g H' g' → WF (kx X) H' g' S → Rep (kx X) H' g' (.tup ds) v → Q v H') (w : WF (kx X) H g S) (r : RepL (kx X) H g ds vs) (hp : H p = none) : Q (.ref p) (upd H p (.tup vs)) :=
  q _ _ g (Ext.new hp) (w.new hp) ⟨p, vs, rfl, .inl upd_same, r.mono (Ext.new hp).toPExt _ _⟩
theorem lst_fin {ds : List D} {vs : List V} {p : Addr} (q : ∀ v H' g', Ext H g H' g' → WF (kx X) H' g' S → Rep (kx X) H' g' (.lst ds) v → Q v H') (w : WF (kx X) H g S) (r : RepL (kx X) H g ds vs) (hp : H p = none) : Q (.ref p) (upd H p (.lst vs)) :=
  q _ _ (g.frz p) (Ext.newFrz hp) (w.newFrz hp) ⟨p, vs, rfl, .inl rfl, upd_same, r.mono (Ext.newFrz hp).toPExt _ _⟩
end
theorem flatEq_v {k : Kx} {H : Hp} {g : G} {d e : D} {x y : V} {b : Bool} (h : flatEq d e = some b) (c1 : CRep k H g d x) (c2 : CRep k H g e y) : scal x y = true ∧ decide (x = y) = b := by
  unfold flatEq at h
  split at h <;> first
    | (cases h; done)
    | (cases h
       simp only [CRep, Rep] at c1 c2
       subst c1 c2
       refine ⟨rfl, ?_⟩
       first
        | decide
        | (rw [Bool.eq_iff_iff]; simp)
        | simp)
theorem cEq_ok {X : Cx} (hu : X.A.units + 64 < cLine) : OpC X (compareOp .Eq) cEq := by
  rintro d e res h pins s σ H x y v u Q I rx ry ⟨g, S, w, c1, c2, q⟩
  unfold cEq at h
  cases z : eqB d e with
  | some b =>
    rw [z] at h
    unfold eqB at z
    split at z
    · rename_i b hb
      cases z
      cases h
      obtain ⟨h1, h2⟩ := flatEq_v hb c1 c2
      exact op_eq pins s σ H x y v u Q I rx ry ⟨h1, scalar_fin q w (by rw [h2] <;> rfl)⟩
    · split at z
      · rename_i hs
        cases z
        cases h
        obtain ⟨h1, h2⟩ := Bool.and_eq_true_iff.mp hs
        obtain ⟨p, e1, s1⟩ := shp_get h1
        obtain ⟨p2, e2, s2⟩ := shp_get h2
        exact op_eqD hu pins s σ H x y v u Q I rx ry ⟨p, p2, c1.dp e1, c2.dp e2, s1, s2, scalar_fin q w (by rw [eqv_py d e p p2 e1 e2] <;> rfl)⟩
      · cases z
  | none =>
    rw [z] at h
    unfold nilEq at h
    split at h
    · rename_i ds
      cases h
      obtain ⟨a, vs, rfl, ha, ra⟩ := c1
      obtain ⟨b, us, rfl, hb, rb⟩ := c2
      cases (show us = [] from rb)
      cases (show v = Value.ref a from rx)
      cases (show u = Value.ref b from ry)
      obtain ⟨its, rv, hl, _⟩ := I.tuple ha.sq
      obtain ⟨its2, rv2, hl2, _⟩ := I.tuple hb.sq
      cases rv2
      have R := SeqAt.RcAt.tuples (A := X.A) (e := fun _ => true) hl hl2 (by omega) (fun j h1 h2 => absurd h2 (by simp))
      refine R X.prog X.w _ _ ?_
      have e : ((List.range (min its.toArray.size (#[] : Array Value).size)).all (fun _ => true) && its.toArray.size == (#[] : Array Value).size) = ds.isEmpty := by
        have hle : its.length = ds.length := by rw [← rv.length, ra.length]
        cases ds with
        | nil => 
          have : its = [] := List.length_eq_zero_iff.mp hle
          subst this; rfl
        | cons d ds =>
          cases its with
          | nil => cases hle
          | cons x its => simp
      rw [e]
      exact ⟨.bl _, H, I, rfl, scalar_fin q w rfl⟩
    · cases h
theorem cNe_ok {X : Cx} (hu : X.A.units + 64 < cLine) : OpC X (compareOp .NotEq) cNe := by
  rintro d e res h pins s σ H x y v u Q I rx ry ⟨g, S, w, c1, c2, q⟩
  unfold cNe eqB at h
  split at h
  · rename_i b hb
    cases h
    obtain ⟨h1, h2⟩ := flatEq_v hb c1 c2
    exact op_ne pins s σ H x y v u Q I rx ry ⟨h1, scalar_fin q w (by rw [h2] <;> rfl)⟩
  · split at h
    · rename_i hs
      cases h
      obtain ⟨h1, h2⟩ := Bool.and_eq_true_iff.mp hs
      obtain ⟨p, e1, s1⟩ := shp_get h1
      obtain ⟨p2, e2, s2⟩ := shp_get h2
      exact op_neD hu pins s σ H x y v u Q I rx ry ⟨p, p2, c1.dp e1, c2.dp e2, s1, s2, scalar_fin q w (by rw [eqv_py d e p p2 e1 e2] <;> rfl)⟩
    · cases h
def cLt : D → D → Option D
  | .int a, .int b => some (.bl (decide (a < b)))
  | .str a, .str b => some (.bl (decide (a < b)))
  | _, _ => none
def cLe : D → D → Option D
  | .int a, .int b => some (.bl (decide (a ≤ b)))
  | .str a, .str b => some (.bl (!decide (b < a)))
  | _, _ => none
def cGt : D → D → Option D
  | .int a, .int b => some (.bl (decide (b < a)))
  | .str a, .str b => some (.bl (decide (b < a)))
  | _, _ => none
def cGe : D → D → Option D
  | .int a, .int b => some (.bl (decide (b ≤ a)))
  | .str a, .str b => some (.bl (!decide (a < b)))
  | _, _ => none
section
variable {X : Cx}
theorem cLt_ok : OpC X (compareOp .Lt) cLt := by
  rintro d e res h pins s σ H x y v u Q I rx ry ⟨g, S, w, c1, c2, q⟩
  unfold cLt at h
  split at h
  · cases h; cases c1; cases c2
    exact op_lt pins s σ H _ _ v u Q I rx ry ⟨_, _, rfl, rfl, scalar_fin q w rfl⟩
  · cases h; cases c1; cases c2
    exact op_lt_str pins s σ H _ _ v u Q I rx ry ⟨_, _, rfl, rfl, scalar_fin q w rfl⟩
  · cases h
theorem cLe_ok : OpC X (compareOp .LtE) cLe := by
  rintro d e res h pins s σ H x y v u Q I rx ry ⟨g, S, w, c1, c2, q⟩
  unfold cLe at h
  split at h
  · cases h; cases c1; cases c2
    exact op_le pins s σ H _ _ v u Q I rx ry ⟨_, _, rfl, rfl, scalar_fin q w rfl⟩
  · cases h; cases c1; cases c2
    exact op_le_str pins s σ H _ _ v u Q I rx ry ⟨_, _, rfl, rfl, scalar_fin q w rfl⟩
  · cases h
theorem cGe_ok : OpC X (compareOp .GtE) cGe := by
  rintro d e res h pins s σ H x y v u Q I rx ry ⟨g, S, w, c1, c2, q⟩
  unfold cGe at h
  split at h
  · cases h; cases c1; cases c2
    exact op_ge pins s σ H _ _ v u Q I rx ry ⟨_, _, rfl, rfl, scalar_fin q w rfl⟩
  · cases h; cases c1; cases c2
    exact op_ge_str pins s σ H _ _ v u Q I rx ry ⟨_, _, rfl, rfl, scalar_fin q w rfl⟩
  · cases h
end
def flatD : D → Bool
  | .non => true
  | .bl _ => true
  | .int _ => true
  | .str _ => true
  | _ => false
theorem flat_v {k : Kx} {H : Hp} {g : G} {d : D} {v : V} (f : flatD d = true) (c : Rep k H g d v) : flatV v = true := by
  cases d with
  | non => cases c; rfl
  | bl b => cases c; rfl
  | int i => cases c; rfl
  | str x => cases c; rfl
  | _ => cases f
theorem flat_all {k : Kx} {H : Hp} {g : G} : ∀ {ds : List D} {vs : List V}, ds.all flatD = true → RepL k H g ds vs → vs.all flatV = true
  | [], _, _, h => by cases (show _ = [] from h); rfl
  | d :: ds, _, f, ⟨v, r, h1, h2, h3⟩ => by
    rw [List.all_cons, Bool.and_eq_true] at f
    subst h1
    rw [List.all_cons, flat_v f.1 h2, flat_all f.2 h3] <;> rfl
theorem eqV_eqv {k : Kx} {H : Hp} {g : G} {d e : D} {x y : V} (f : flatD d = true) (f' : flatD e = true) (c : Rep k H g d x) (c' : Rep k H g e y) : eqV x y = eqv d e := by
  cases d with
  | non =>
    cases c
    cases e with
    | non => cases c'; rfl
    | bl b => cases c'; rfl
    | int i => cases c'; rfl
    | str z => cases c'; rfl
    | _ => cases f'
  | bl b =>
    cases c
    cases e with
    | non => cases c'; rfl
    | bl b => cases c'; simp only [eqV, eqv]
    | int i => cases c'; simp only [eqV, eqv]
    | str z => cases c'; rfl
    | _ => cases f'
  | int i =>
    cases c
    cases e with
    | non => cases c'; rfl
    | bl b => cases c'; simp only [eqV, eqv]
    | int i => cases c'; simp only [eqV, eqv]
    | str z => cases c'; rfl
    | _ => cases f'
  | str z =>
    cases c
    cases e with
    | non => cases c'; rfl
    | bl b => cases c'; rfl
    | int i => cases c'; rfl
    | str z' => cases c'; simp only [eqV, eqv]; exact str_beq z z'
    | _ => cases f'
  | _ => cases f
theorem inV_eqv {k : Kx} {H : Hp} {g : G} {e : D} {y : V} (f' : flatD e = true) (c' : Rep k H g e y) : ∀ {ds : List D} {vs : List V}, ds.all flatD = true → RepL k H g ds vs → inV y vs = ds.any fun d => eqv d e
  | [], _, _, h => by cases (show _ = [] from h); rfl
  | d :: ds, _, f, ⟨v, r, h1, h2, h3⟩ => by
    rw [List.all_cons, Bool.and_eq_true] at f
    subst h1
    have ih := inV_eqv f' c' f.2 h3
    unfold inV at ih ⊢
    rw [List.any_cons, List.any_cons, eqV_eqv f.1 f' h2 c', ih]
def inB : D → D → Option Bool
  | x, .lst ys => if flatD x && ys.all flatD then some (ys.any fun y => eqv y x) else none
  | x, .tup ys => if flatD x && ys.all flatD then some (ys.any fun y => eqv y x) else none
  | .str [c], .str z => some (decide (c ∈ z))
  | _, _ => none
def cIn (d e : D) : Option D := (inB d e).map .bl
section
variable {X : Cx}
theorem cIn_ok : OpC X (compareOp .In) cIn := by
  rintro d e res h pins s σ H x y v u Q I rx ry ⟨g, S, w, c1, c2, q⟩
  unfold cIn inB at h
  split at h
  · split at h
    · rename_i ys hf
      cases h
      obtain ⟨f1, f2⟩ := Bool.and_eq_true_iff.mp hf
      obtain ⟨a, vs, rfl, ha, r⟩ := c2
      have c1' : Rep (kx X) H g d x := by cases d <;> first | exact c1 | cases f1
      exact op_in_seq pins s σ H _ _ v u Q I rx ry ⟨a, vs, rfl, .inl (SqL.of ha), flat_v f1 c1', flat_all f2 r, scalar_fin q w (by rw [if_neg Bool.false_ne_true, inV_eqv f1 c1' f2 r] <;> rfl)⟩
    · cases h
  · split at h
    · rename_i ys hf
      cases h
      obtain ⟨f1, f2⟩ := Bool.and_eq_true_iff.mp hf
      obtain ⟨a, vs, rfl, ha, r⟩ := c2
      have c1' : Rep (kx X) H g d x := by cases d <;> first | exact c1 | cases f1
      exact op_in_seq pins s σ H _ _ v u Q I rx ry ⟨a, vs, rfl, .inr ha.sq, flat_v f1 c1', flat_all f2 r, scalar_fin q w (by rw [if_neg Bool.false_ne_true, inV_eqv f1 c1' f2 r] <;> rfl)⟩
    · cases h
  · cases h; cases c1; cases c2
    exact op_in_sign pins s σ H _ _ v u Q I rx ry ⟨_, _, rfl, rfl, scalar_fin q w rfl⟩
  · cases h
def isNon : D → Bool
  | .non => true
  | _ => false
theorem isNon_v {k : Kx} {H : Hp} {g : G} {d : D} {v : V} (c : CRep k H g d v) : decide (v = V.non) = isNon d := by
  cases d with
  | non => cases c; rfl
  | bl b => cases c; rfl
  | int b => cases c; rfl
  | str b => cases c; rfl
  | tup ds => obtain ⟨a, vs, rfl, _⟩ := c; rfl
  | lst ds => obtain ⟨a, vs, rfl, _⟩ := c; rfl
  | obj n => obtain ⟨_, rfl⟩ := c; rfl
  | gl x => obtain ⟨a, _, rfl⟩ := c; rfl
  | ty n => cases c; rfl
  | scr n => obtain ⟨a, rfl, _⟩ := c; rfl
  | edc => obtain ⟨a, rfl, _⟩ := c; rfl
  | ins _ _ _ => obtain ⟨a, _, _, _, rfl, _⟩ := c; rfl
def cIs : D → D → Option D
  | d, .non => some (.bl (isNon d))
  | .bl a, .bl b => some (.bl (a == b))
  | _, _ => none
def cIsNot : D → D → Option D
  | d, .non => some (.bl (!isNon d))
  | .bl a, .bl b => some (.bl (!(a == b)))
  | _, _ => none
theorem dec_beq (a b : Bool) : decide (a = b) = (a == b) := by cases a <;> cases b <;> rfl
theorem cIsNot_ok : OpC X (compareOp .IsNot) cIsNot := by
  rintro d e res h pins s σ H x y v u Q I rx ry ⟨g, S, w, c1, c2, q⟩
  unfold cIsNot at h
  split at h
  · cases h; cases c2
    exact op_notN pins s σ H _ _ v u Q I rx ry ⟨rfl, scalar_fin q w (by rw [isNon_v c1] <;> rfl)⟩
  · cases h; cases c1; cases c2
    exact op_notBl pins s σ H _ _ v u Q I rx ry ⟨_, _, rfl, rfl, scalar_fin q w (by rw [dec_beq] <;> rfl)⟩
  · cases h
end
def oAdd : D → D → Option D
  | .int a, .int b => some (.int (a + b))
  | .str a, .str b => if a.length + b.length ≤ sizeLine then some (.str (a ++ b)) else none
  | .tup a, .tup b => if a.length + b.length ≤ sizeLine then some (.tup (a ++ b)) else none
  | .lst a, .lst b => if a.length + b.length ≤ sizeLine then some (.lst (a ++ b)) else none
  | _, _ => none
def oSub : D → D → Option D
  | .int a, .int b => some (.int (a - b))
  | _, _ => none
def oMul : D → D → Option D
  | .int a, .int b => if a.natAbs.log2 + b.natAbs.log2 < 1000000 then some (.int (a * b)) else none
  | .lst a, .int b => if -(2 ^ 63) ≤ b ∧ b < 2 ^ 63 ∧ a.length * b.toNat ≤ sizeLine then some (.lst (List.replicate b.toNat a).flatten) else none
  | .tup a, .int b => if a ≠ [] ∧ 2 ≤ b ∧ b ≤ 1000 ∧ a.length ≤ 1000 then some (.tup (List.replicate b.toNat a).flatten) else none
  | _, _ => none
def oFdiv : D → D → Option D
  | .int a, .int b => if 0 < b ∧ b.natAbs.log2 < 9000 then some (.int (a / b)) else none
  | _, _ => none
def oMod : D → D → Option D
  | .int a, .int b => if 0 < b then some (.int (a % b)) else none
  | _, _ => none
def oPow : D → D → Option D
  | .int a, .int b => if 0 ≤ b ∧ b ≤ 1000000 ∧ a.natAbs < 2 ^ 64 then some (.int (a ^ b.toNat)) else none
  | _, _ => none
theorem RepL.rep {k : Kx} {H : Hp} {g : G} {ds : List D} {vs : List V} (h : RepL k H g ds vs) : ∀ n : Nat, RepL k H g (List.replicate n ds).flatten (List.replicate n vs).flatten
  | 0 => rfl
  | n + 1 => by
    rw [List.replicate_succ, List.replicate_succ, List.flatten_cons, List.flatten_cons]
    exact h.append (RepL.rep h n)
theorem mk_app (a b : List Nat) : ((⟨a.toArray⟩ : Str) ++ ⟨b.toArray⟩) = ⟨(a ++ b).toArray⟩ := by
  show Str.append _ _ = _
  unfold Str.append
  simp
theorem mk_len (a : List Nat) : (⟨a.toArray⟩ : Str).length = a.length := by unfold Str.length; simp
section
variable {X : Cx}
theorem oAdd_ok : OpC X (binaryOp .Add) oAdd := by
  rintro d e res h pins s σ H x y v u Q I rx ry ⟨g, S, w, c1, c2, q⟩
  unfold oAdd at h
  split at h
  · cases h; cases c1; cases c2
    exact op_add pins s σ H _ _ v u Q I rx ry ⟨_, _, rfl, rfl, scalar_fin q w rfl⟩
  · split at h
    · rename_i a b hz
      cases h; cases c1; cases c2
      exact op_add_str pins s σ H _ _ v u Q I rx ry ⟨_, _, rfl, rfl, by rw [mk_len, mk_len]; exact hz, scalar_fin q w (by rw [mk_app] <;> rfl)⟩
    · cases h
  · split at h
    · rename_i a b hz
      cases h
      obtain ⟨p, vs, rfl, hp, r1⟩ := c1
      obtain ⟨p2, us, rfl, hp2, r2⟩ := c2
      refine op_catA pins s σ H _ _ v u Q I rx ry ⟨p, p2, vs, us, rfl, rfl, hp.sq, hp2.sq, by rw [r1.length, r2.length]; exact hz, fun e => ?_, fun e e2 => ?_, fun e e2 p' hp' => tup_fin q w (r1.append r2) hp'⟩
      · subst e
        have e : a = [] := List.eq_nil_of_length_eq_zero r1.length.symm
        subst e
        exact scalar_fin q w ⟨p2, us, rfl, hp2, r2⟩
      · subst e2
        have e : b = [] := List.eq_nil_of_length_eq_zero r2.length.symm
        subst e
        exact scalar_fin q w ⟨p, vs, rfl, hp, by rw [List.append_nil]; exact r1⟩
    · cases h
  · split at h
    · rename_i a b hz
      cases h
      obtain ⟨p, vs, rfl, hp, r1⟩ := c1
      obtain ⟨p2, us, rfl, hp2, r2⟩ := c2
      exact op_cat pins s σ H _ _ v u Q I rx ry ⟨p, p2, vs, us, rfl, rfl, hp, hp2, by rw [r1.length, r2.length]; exact hz, fun p' hp' => lst_fin q w (r1.append r2) hp'⟩
    · cases h
  · cases h
theorem oMul_ok : OpC X (binaryOp .Mult) oMul := by
  rintro d e res h pins s σ H x y v u Q I rx ry ⟨g, S, w, c1, c2, q⟩
  unfold oMul at h
  split at h
  · split at h
    · rename_i a b hz
      cases h; cases c1; cases c2
      exact op_mulW pins s σ H _ _ v u Q I rx ry ⟨_, _, rfl, rfl, hz, scalar_fin q w rfl⟩
    · cases h
  · split at h
    · rename_i a b hz
      cases h; cases c2
      obtain ⟨p, vs, rfl, hp, r1⟩ := c1
      exact op_rep pins s σ H _ _ v u Q I rx ry ⟨p, b, vs, rfl, rfl, hp, hz.1, hz.2.1, by rw [r1.length]; exact hz.2.2, fun p' hp' => lst_fin q w (r1.rep _) hp'⟩
    · cases h
  · split at h
    · rename_i a b hz
      cases h; cases c2
      obtain ⟨p, vs, rfl, hp, r1⟩ := c1
      exact op_repT pins s σ H _ _ v u Q I rx ry ⟨p, b, vs, rfl, rfl, hp.sq, fun e => hz.1 (by subst e; exact List.eq_nil_of_length_eq_zero r1.length.symm), hz.2.1, hz.2.2.1, by rw [r1.length]; exact hz.2.2.2, fun p' hp' => tup_fin q w (r1.rep _) hp'⟩
    · cases h
  · cases h
theorem oFdiv_ok : OpC X (binaryOp .FloorDiv) oFdiv := by
  rintro d e res h pins s σ H x y v u Q I rx ry ⟨g, S, w, c1, c2, q⟩
  unfold oFdiv at h
  split at h
  · split at h
    · rename_i a b hz
      cases h; cases c1; cases c2
      exact op_fdivW pins s σ H _ _ v u Q I rx ry ⟨_, _, rfl, rfl, hz, scalar_fin q w rfl⟩
    · cases h
  · cases h
theorem oMod_ok : OpC X (binaryOp .Mod) oMod := by
  rintro d e res h pins s σ H x y v u Q I rx ry ⟨g, S, w, c1, c2, q⟩
  unfold oMod at h
  split at h
  · split at h
    · rename_i a b hz
      cases h; cases c1; cases c2
      exact op_mod pins s σ H _ _ v u Q I rx ry ⟨_, _, rfl, rfl, hz, scalar_fin q w rfl⟩
    · cases h
  · cases h
theorem oPow_ok : OpC X (binaryOp .Pow) oPow := by
  rintro d e res h pins s σ H x y v u Q I rx ry ⟨g, S, w, c1, c2, q⟩
  unfold oPow at h
  split at h
  · split at h
    · rename_i a b hz
      cases h; cases c1; cases c2
      exact op_pow pins s σ H _ _ v u Q I rx ry ⟨_, _, rfl, rfl, hz, scalar_fin q w rfl⟩
    · cases h
  · cases h
end
end Rf
set_option Elab.async false
set_option linter.all false
set_option maxRecDepth 100000
namespace Rf
open PySem L2
def noStar : Expr → Bool
  | .Starred .. => false
  | _ => true
theorem star_cons {e : Expr} {es : List Expr} {env : Env} (h : noStar e = true) : starEach (e :: es) env = (false, eval e env) :: starEach es env := by
  cases e <;> first | rfl | cases h
theorem star_any {pos : Pos} {env : Env} : ∀ {es : List Expr}, es.all noStar = true → (backTo pos (starEach es env)).any (·.1) = false
  | [], _ => rfl
  | e :: es, h => by
    rw [List.all_cons, Bool.and_eq_true] at h
    rw [star_cons h.1]
    show (false || (backTo pos (starEach es env)).any (·.1)) = false
    rw [star_any h.2] <;> rfl
def plainTest : Expr → Bool
  | .UnaryOp .Not _ _ => false
  | .BoolOp .. => false
  | .IfExp .. => false
  | .Compare .. => false
  | _ => true
theorem plain_true {e : Expr} {env : Env} (h : plainTest e = true) (whole : Sem Value) : isTrue e env whole = (do let v ← whole; standAt e.pos; holding [v] (truthy v)) := by
  cases e with
  | UnaryOp op a pos => cases op <;> first | rfl | cases h
  | BoolOp => cases h
  | IfExp => cases h
  | Compare => cases h
  | _ => rfl
def notSlice : Expr → Bool
  | .Slice .. => false
  | _ => true
theorem not_slice {b : Expr} (h : notSlice b = true) (o i : Value) : subscripted b false o i = operate [o, i] (getItem o i) := by
  cases b <;> first | rfl | cases h
def notSuper : Expr → Bool
  | .Call (.Name id _) [] [] _ => !(id == ("super" : Str))
  | _ => true
theorem not_super {o : Expr} {f : Str} {env : Env} (h : notSuper o = true) : attributeBase o f env (eval o env) = eval o env := by
  unfold attributeBase
  split
  · rename_i id p1 p2
    have h' : (!(id == ("super" : Str))) = true := h
    have h2 : (id != ("super" : Str)) = true := h'
    simp only [h2, Bool.true_or, if_true]
  · rfl
def notMark : Expr → Bool
  | .Set .. => false
  | _ => true
theorem not_mark {b : Expr} {op : CmpOp} (h : notMark b = true) : behindInMarks op b = false := by
  cases b <;> first | rfl | cases h
def notComp : Expr → Bool
  | .ListComp .. => false
  | .SetComp .. => false
  | .DictComp .. => false
  | _ => true
section
variable {X : Cx} {W : WX} {e a b c : Expr} {es : List Expr} {m ma mb mc : EM}
def aNil : Ls → Sto → R (List D) := fun _ S => .ok [] S
def aCons (m : EM) (r : Ls → Sto → R (List D)) : Ls → Sto → R (List D) := fun L S => (m L S).bind fun d S1 => (r L S1).bind fun ds S2 => .ok (d :: ds) S2
theorem PkL.ext {k : Kx} {σ : L2.St} {L : Ls} {H H' : Hp} {g g' : G} (e : PExt H g H' g') : ∀ {ds : List D} {vs : List V}, PkL k σ L H g ds vs → PkL k σ L H' g' ds vs
  | [], _, h => h
  | _ :: _, _, ⟨v, r, h1, h2, h3⟩ => ⟨v, r, h1, h2.ext e, PkL.ext e h3⟩
theorem sa_nil : SA X W [] aNil := PA.imp pa_nil fun σ H Q ⟨L, S, g, l, w, p⟩ => Post.ret p w rfl
theorem sa_cons {mr : Ls → Sto → R (List D)} (ha : SP X W e m) (hr : SA X W es mr) (hs : noStar e = true) : SA X W (e :: es) (aCons m mr) :=
  PA.imp (pa_cons ha hr (star_cons hs)) fun σ H Q ⟨L, S, g, l, w, p⟩ => ⟨L, S, g, l, w, Post.bind p fun d S1 v H1 g1 e1 w1 r1 p1 =>
    ⟨L, S1, g1, l.ext e1, w1, Post.bind p1 fun ds S2 vs H2 g2 e2 w2 r2 p2 => Post.ret p2 w2 ⟨v, vs, rfl, r1.ext e2.toPExt, r2⟩⟩⟩
/-- arguments that are kept (values alone) -/
def tAE (k : Kx) (W : WX) (m : Ls → Sto → R (List D)) : TA := fun σ H Q => ∃ L S g, LocRel k σ L H g ∧ WF k H g S ∧ Post k (RepL k) H g (fun c d => W c d σ) (m L S) Q
abbrev SAE (X : Cx) (W : WX) (es : List Expr) (m : Ls → Sto → R (List D)) : Prop := PA X es (tAE (kx X) W m)
theorem sae_nil : SAE X W [] aNil := PA.imp pa_nil fun σ H Q ⟨L, S, g, l, w, p⟩ => Post.ret p w rfl
theorem sae_cons {mr : Ls → Sto → R (List D)} (ha : SE X W e m) (hr : SAE X W es mr) (hs : noStar e = true) : SAE X W (e :: es) (aCons m mr) :=
  PA.imp (pa_cons ha hr (star_cons hs)) fun σ H Q ⟨L, S, g, l, w, p⟩ => ⟨L, S, g, l, w, Post.bind p fun d S1 v H1 g1 e1 w1 r1 p1 =>
    ⟨L, S1, g1, l.ext e1, w1, Post.bind p1 fun ds S2 vs H2 g2 e2 w2 r2 p2 => Post.ret p2 w2 ⟨v, vs, rfl, r1.mono e2.toPExt _ _, r2⟩⟩⟩
def eTup (m : Ls → Sto → R (List D)) : EM := fun L S => (m L S).bind fun ds S1 => if ds.length ≤ sizeLine then .ok (.tup ds) S1 else .no
theorem se_tup {x1 : Nat} {pos : Pos} {mr : Ls → Sto → R (List D)} (h : SAE X W es mr) : SE X W (.Tuple es x1 pos) (eTup mr) :=
  PE.imp (pe_tup h) fun σ H Q ⟨L, S, g, l, w, p⟩ => ⟨L, S, g, l, w, Post.bind p fun ds S1 vs H1 g1 e1 w1 r1 p1 => by
    by_cases hz : ds.length ≤ sizeLine
    · rw [if_pos hz] at p1
      exact ⟨by rw [r1.length]; exact hz, fun q hq => p1 _ _ g1 (Ext.new hq) (w1.new hq) ⟨q, vs, rfl, .inl upd_same, r1.mono (Ext.new hq).toPExt _ _⟩⟩
    · rw [if_neg hz] at p1
      exact p1.elim⟩
def fLst (m : Ls → Sto → R (List D)) : Ls → Sto → R (List D) := fun L S => (m L S).bind fun ds S1 => if ds.length ≤ sizeLine then .ok ds S1 else .no
theorem fresh_of {H H1 : Hp} {g g1 : G} {q : Addr} (e : Ext H g H1 g1) (h : H1 q = none) : H q = none := by
  cases z : H q with
  | none => rfl
  | some o => obtain ⟨u, y⟩ := e.tr q o z; rw [h] at y; cases y
theorem own_new {k : Kx} {H : Hp} {g : G} {S : Sto} {ds : List D} {vs : List V} {q : Addr} (w : WF k H g S) (r : RepL k H g ds vs) (hq : H q = none) : OwnAt k (upd H q (.lst vs)) g q (.lst ds) := by
  refine ⟨⟨vs, upd_same, r.mono (Ext.new hq).toPExt _ _⟩, fun f => ?_, fun i hi z => ?_⟩
  · obtain ⟨o, z⟩ := w.tF q f
    rw [hq] at z; cases z
  · obtain ⟨o, y⟩ := w.ρt hi
    rw [z, hq] at y; cases y
/-- a rule that ends in a new list -/
theorem f_fin {k : Kx} {H H1 : Hp} {g g1 : G} {S1 : Sto} {W : Value → Option Addr → Hp → Prop} {ds : List D} {vs : List V} {q : Addr} {Q : VK} (e : Ext H g H1 g1) (w1 : WF k H1 g1 S1) (r : RepL k H1 g1 ds vs)
    (p : Post k (FRep k H) H1 g1 W (.ok ds S1) Q) (hq : H1 q = none) : Q (.ref q) (upd H1 q (.lst vs)) :=
  p _ _ g1 (Ext.new hq) (w1.new hq) ⟨q, rfl, fresh_of e hq, own_new w1 r hq⟩
theorem sf_lst {pos : Pos} {mr : Ls → Sto → R (List D)} (h : SAE X W es mr) : SF X W (.List es pos) (fLst mr) :=
  PE.imp (pe_lst h) fun σ H Q ⟨L, S, g, l, w, p⟩ => ⟨L, S, g, l, w, Post.bind p fun ds S1 vs H1 g1 e1 w1 r1 p1 => by
    by_cases hz : ds.length ≤ sizeLine
    · rw [if_pos hz] at p1
      exact ⟨by rw [r1.length]; exact hz, fun q hq => f_fin e1 w1 r1 p1 hq⟩
    · rw [if_neg hz] at p1
      exact p1.elim⟩
/-- a new list that is never changed; one in the store -/
def eFz (m : Ls → Sto → R (List D)) : EM := fun L S => (m L S).bind fun ds S1 => .ok (.lst ds) S1
def eNw (m : Ls → Sto → R (List D)) : EM := fun L S => (m L S).bind fun ds S1 => .ok (.obj S1.length) (S1 ++ [.lst ds])
theorem Ext.frzNew {H : Hp} {H1 : Hp} {g g1 : G} {q : Addr} (e : Ext H g H1 g1) (hq : H q = none) : Ext H g H1 (g1.frz q) where
  toPExt := e.toPExt.trans PExt.frz
  keep := e.keep
  newF := fun a f => by
    rcases f with rfl | f
    · exact .inr hq
    · exact e.newF a f
  newρ := e.newρ
  tr := e.tr
theorem WF.frzOwn {k : Kx} {H : Hp} {g : G} {S : Sto} {q : Addr} {o : O} (w : WF k H g S) (h : OwnAt k H g q o) : WF k H (g.frz q) S where
  len := w.len
  ob := fun i u e => (w.ob i u e).mono PExt.frz fun _ z => z
  inj := w.inj
  nF := fun i hi f => by
    rcases f with f | f
    · exact h.2.2 i hi f
    · exact w.nF i hi f
  tF := fun a f => by
    rcases f with rfl | f
    · exact h.1.tr
    · exact w.tF a f
theorem OwnAt.frz {k : Kx} {H : Hp} {g : G} {q : Addr} {ds : List D} (h : OwnAt k H g q (.lst ds)) : Rep k H (g.frz q) (.lst ds) (.ref q) := by
  obtain ⟨⟨vs, e, r⟩, _⟩ := h
  exact ⟨q, vs, rfl, .inl rfl, e, r.mono PExt.frz _ _⟩
theorem se_fz {mr : Ls → Sto → R (List D)} (h : SF X W e mr) : SE X W e (eFz mr) := PE.imp h fun σ H Q ⟨L, S, g, l, w, p⟩ => ⟨L, S, g, l, w, by
  unfold eFz at p
  cases q : mr L S with
  | ok ds S1 =>
    rw [q] at p
    exact fun v H1 g1 e1 w1 ⟨a, h1, h2, h3⟩ => p v H1 (g1.frz a) (e1.frzNew h2) (w1.frzOwn h3) (by rw [h1]; exact h3.frz)
  | ex x S1 => rw [q] at p; exact p
  | no => rw [q] at p; exact p⟩
theorem Ext.pushNew {H : Hp} {H1 : Hp} {g g1 : G} {q : Addr} (e : Ext H g H1 g1) (hq : H q = none) : Ext H g H1 (g1.push q) where
  toPExt := e.toPExt.trans ⟨fun _ h => h, fun _ _ _ h => h, fun _ _ h => h, fun _ _ _ h => h, Nat.le_succ _, fun i hi => if_neg (Nat.ne_of_lt hi)⟩
  keep := e.keep
  newF := e.newF
  newρ := fun i h1 h2 => by
    show H (if i = g1.n then q else g1.ρ i) = none
    by_cases z : i = g1.n
    · rw [if_pos z]; exact hq
    · rw [if_neg z]
      have h3 : i < g1.n + 1 := h2
      exact e.newρ i h1 (by omega)
  tr := e.tr
theorem WF.pushOwn {k : Kx} {H : Hp} {g : G} {S : Sto} {q : Addr} {o : O} (w : WF k H g S) (h : OwnAt k H g q o) : WF k H (g.push q) (S ++ [o]) where
  len := by rw [List.length_append, w.len]; rfl
  ob := fun i u e => by
    have pe : PExt H g H (g.push q) := ⟨fun _ h => h, fun _ _ _ h => h, fun _ _ h => h, fun _ _ _ h => h, Nat.le_succ _, fun i hi => if_neg (Nat.ne_of_lt hi)⟩
    by_cases hi : i < g.n
    · rw [List.getElem?_append_left (by rw [w.len]; exact hi)] at e
      show ORep k _ _ u (if i = g.n then q else g.ρ i)
      rw [if_neg (Nat.ne_of_lt hi)]
      exact (w.ob i u e).mono pe fun o z => z
    · rw [List.getElem?_append_right (by rw [w.len]; exact Nat.le_of_not_lt hi), w.len] at e
      have e0 : i - g.n = 0 := by
        rcases Nat.eq_zero_or_pos (i - g.n) with z | z
        · exact z
        · rw [List.getElem?_eq_none (by simp only [List.length_singleton]; omega)] at e; cases e
      have ei : i = g.n := by omega
      rw [e0] at e
      cases e
      show ORep k _ _ o (if i = g.n then q else g.ρ i)
      rw [if_pos ei]
      exact h.1.mono pe fun o z => z
  inj := fun i j hi hj e => by
    have e' : (if i = g.n then q else g.ρ i) = (if j = g.n then q else g.ρ j) := e
    have h3 : i < g.n + 1 := hi
    have h4 : j < g.n + 1 := hj
    by_cases h1 : i = g.n
    · by_cases h2 : j = g.n
      · omega
      · rw [if_pos h1, if_neg h2] at e'
        exact absurd e'.symm (h.2.2 j (by omega))
    · by_cases h2 : j = g.n
      · rw [if_neg h1, if_pos h2] at e'
        exact absurd e' (h.2.2 i (by omega))
      · rw [if_neg h1, if_neg h2] at e'
        exact w.inj i j (by omega) (by omega) e'
  nF := fun i hi f => by
    have f' : g.F (if i = g.n then q else g.ρ i) := f
    have h3 : i < g.n + 1 := hi
    by_cases h1 : i = g.n
    · rw [if_pos h1] at f'
      exact h.2.1 f'
    · rw [if_neg h1] at f'
      exact w.nF i (by omega) f'
  tF := fun a f => w.tF a f
theorem se_nw {mr : Ls → Sto → R (List D)} (h : SF X W e mr) : SE X W e (eNw mr) := PE.imp h fun σ H Q ⟨L, S, g, l, w, p⟩ => ⟨L, S, g, l, w, by
  unfold eNw at p
  cases q : mr L S with
  | ok ds S1 =>
    rw [q] at p
    refine fun v H1 g1 e1 w1 ⟨a, h1, h2, h3⟩ => p v H1 (g1.push a) (e1.pushNew h2) (w1.pushOwn h3) ?_
    rw [h1]
    refine ⟨by rw [w1.len]; exact Nat.lt_succ_self _, ?_⟩
    show V.ref a = V.ref (if S1.length = g1.n then a else _)
    rw [if_pos w1.len]
  | ex x S1 => rw [q] at p; exact p
  | no => rw [q] at p; exact p⟩
def tNt (m : Ls → Sto → R Bool) : Ls → Sto → R Bool := fun L S => (m L S).bind fun b S1 => .ok (!b) S1
def tAn (ma mb : Ls → Sto → R Bool) : Ls → Sto → R Bool := fun L S => (ma L S).bind fun b S1 => if b = true then mb L S1 else .ok false S1
def tOo (ma mb : Ls → Sto → R Bool) : Ls → Sto → R Bool := fun L S => (ma L S).bind fun b S1 => if b = true then .ok true S1 else mb L S1
variable {ta tb tc : Ls → Sto → R Bool} {pos : Pos} {rest : List Expr}
theorem st_not (h : ST X W a ta) : ST X W (.UnaryOp .Not a pos) (tNt ta) :=
  PT.imp (pt_not h) fun σ H Q ⟨L, S, g, l, w, p⟩ => ⟨L, S, g, l, w, Post.bind p fun b S1 c H1 g1 e1 w1 r1 p1 => by cases r1; exact Post.ret p1 w1 rfl⟩
theorem PW.imp {e : Expr} {t t' : TT} (h : PW X e t) (i : ∀ σ H Q, t' σ H Q → t σ H Q) : PW X e t' := ⟨fun wh pins s σ H Q I q => h.run wh pins s σ H Q I (i σ H Q q)⟩
/-- a value's truth -/
def truth : D → Option Bool
  | .non => some false
  | .bl b => some b
  | .int i => some (i != 0)
  | .str x => if x.length ≤ sizeLine then some (!x.isEmpty) else none
  | .tup xs => some (!xs.isEmpty)
  | .lst xs => some (!xs.isEmpty)
  | _ => none
def tTr (m : EM) : Ls → Sto → R Bool := fun L S => (m L S).bind fun d S1 => lift (truth (deref S1 d)) S1
theorem isEmpty_rep {k : Kx} {H : Hp} {g : G} {ds : List D} {vs : List V} (r : RepL k H g ds vs) : ds.isEmpty = vs.isEmpty := by
  cases ds with
  | nil => cases (show vs = [] from r); rfl
  | cons d ds => obtain ⟨v, u, rfl, _⟩ := r; rfl
theorem truth_v {k : Kx} {H : Hp} {g : G} {d : D} {v : V} {b : Bool} (h : truth d = some b) (c : CRep k H g d v) : TruV k.K v H b := by
  cases d with
  | non => cases c; cases h; rfl
  | bl b => cases c; cases h; rfl
  | int i => cases c; cases h; rfl
  | str x =>
    cases c
    simp only [truth] at h
    split at h
    · rename_i hz
      cases h
      refine ⟨by rw [mk_len]; exact hz, ?_⟩
      rw [mk_len]
      cases x with
      | nil => rfl
      | cons c x =>
        show true = _
        rw [eq_comm, bne_iff_ne]
        simp only [List.length_cons]
        omega
    · cases h
  | tup xs =>
    cases h
    obtain ⟨a, vs, rfl, h1, h2⟩ := c
    exact .inr (.inl ⟨vs, h1.sq, by rw [isEmpty_rep h2]⟩)
  | lst xs =>
    cases h
    obtain ⟨a, vs, rfl, h1, h2⟩ := c
    exact .inl ⟨vs, SqL.of h1, by rw [isEmpty_rep h2]⟩
  | _ => cases h
theorem st_truth (h : SP X W e m) (ht : plainTest e = true) : ST X W e (tTr m) :=
  PT.imp (pt_truth h (plain_true ht)) fun σ H Q ⟨L, S, g, l, w, p⟩ => ⟨L, S, g, l, w, Post.bind p fun d S1 v H1 g1 e1 w1 r1 p1 => by
    cases q : truth (deref S1 d) with
    | none => rw [q] at p1; exact p1.elim
    | some b =>
      rw [q] at p1
      exact ⟨b, truth_v q (r1.c (l.ext e1) w1), Post.ret p1 w1 rfl⟩⟩
def eAn (ma mb : EM) : EM := fun L S => (ma L S).bind fun d S1 => match d with
  | .bl true => mb L S1
  | .bl false => .ok (.bl false) S1
  | _ => .no
def eOo (ma mb : EM) : EM := fun L S => (ma L S).bind fun d S1 => match d with
  | .bl true => .ok (.bl true) S1
  | .bl false => mb L S1
  | _ => .no
def eNt (ma : EM) : EM := fun L S => (ma L S).bind fun d S1 => match d with
  | .bl b => .ok (.bl (!b)) S1
  | _ => .no
theorem se_one {op : BoolOp} (h : SE X W a ma) : SE X W (.BoolOp op [a] pos) ma := pe_one h
theorem se_and (ha : SE X W a ma) (hb : SE X W (.BoolOp .And (b :: rest) pos) mb) : SE X W (.BoolOp .And (a :: b :: rest) pos) (eAn ma mb) :=
  PE.imp (pe_and ha hb) fun σ H Q ⟨L, S, g, l, w, p⟩ => ⟨L, S, g, l, w, Post.bind p fun d S1 v H1 g1 e1 w1 r1 p1 => by
    cases d with
    | bl c =>
      cases r1
      refine ⟨c, rfl, ?_⟩
      cases c with
      | true => exact ⟨L, S1, g1, l.ext e1, w1, p1⟩
      | false => exact Post.ret p1 w1 rfl
    | _ => exact p1.elim⟩
theorem se_or (ha : SE X W a ma) (hb : SE X W (.BoolOp .Or (b :: rest) pos) mb) : SE X W (.BoolOp .Or (a :: b :: rest) pos) (eOo ma mb) :=
  PE.imp (pe_or ha hb) fun σ H Q ⟨L, S, g, l, w, p⟩ => ⟨L, S, g, l, w, Post.bind p fun d S1 v H1 g1 e1 w1 r1 p1 => by
    cases d with
    | bl c =>
      cases r1
      refine ⟨c, rfl, ?_⟩
      cases c with
      | false => exact ⟨L, S1, g1, l.ext e1, w1, p1⟩
      | true => exact Post.ret p1 w1 rfl
    | _ => exact p1.elim⟩
theorem se_not (ha : SE X W a ma) : SE X W (.UnaryOp .Not a pos) (eNt ma) :=
  PE.imp (pe_not ha) fun σ H Q ⟨L, S, g, l, w, p⟩ => ⟨L, S, g, l, w, Post.bind p fun d S1 v H1 g1 e1 w1 r1 p1 => by
    cases d with
    | bl c => cases r1; exact ⟨c, rfl, Post.ret p1 w1 rfl⟩
    | _ => exact p1.elim⟩
def eIf (t : Ls → Sto → R Bool) (ma mb : EM) : EM := fun L S => (t L S).bind fun c S1 => if c = true then ma L S1 else mb L S1
theorem se_if (hc : ST X W c tc) (ha : SE X W a ma) (hb : SE X W b mb) : SE X W (.IfExp c a b pos) (eIf tc ma mb) :=
  PE.imp (pe_ifExp hc ha hb) fun σ H Q ⟨L, S, g, l, w, p⟩ => ⟨L, S, g, l, w, Post.bind p fun d S1 d' H1 g1 e1 w1 r1 p1 => by
    cases r1
    cases d with
    | true => exact ⟨L, S1, g1, l.ext e1, w1, p1⟩
    | false => exact ⟨L, S1, g1, l.ext e1, w1, p1⟩⟩
def eNeg (ma : EM) : EM := fun L S => (ma L S).bind fun d S1 => match d with
  | .int i => .ok (.int (-i)) S1
  | _ => .no
theorem se_neg (ha : SE X W a ma) : SE X W (.UnaryOp .USub a pos) (eNeg ma) :=
  PE.imp (pe_un un_neg ha) fun σ H Q ⟨L, S, g, l, w, p⟩ => ⟨L, S, g, l, w, Post.bind p fun d S1 v H1 g1 e1 w1 r1 p1 => by
    cases d with
    | int i => cases r1; exact ⟨i, rfl, Post.ret p1 w1 rfl⟩
    | _ => exact p1.elim⟩
def eCh (o o' : D → D → Option D) (ma mb mc : EM) : EM := fun L S => (ma L S).bind fun x S1 => (mb L S1).bind fun y S2 => match o (deref S2 x) (deref S2 y) with
  | some (.bl true) => (mc L S2).bind fun z S3 => lift (o' (deref S3 y) (deref S3 z)) S3
  | some (.bl false) => .ok (.bl false) S2
  | _ => .no
theorem ch_ops {k : Kx} {o o' : D → D → Option D} {σ : L2.St} {H : Hp} {Q : VK} {Wf : WX} (h : tE k Wf (eCh o o' ma mb mc) σ H Q) :
    tChain (fun x y H Q => ∃ g S d e res, WF k H g S ∧ CRep k H g d x ∧ CRep k H g e y ∧ o d e = some res ∧ ∀ v H' g', Ext H g H' g' → WF k H' g' S → Rep k H' g' res v → Q v H')
      (fun x y H Q => ∃ g S d e res, WF k H g S ∧ CRep k H g d x ∧ CRep k H g e y ∧ o' d e = some res ∧ ∀ v H' g', Ext H g H' g' → WF k H' g' S → Rep k H' g' res v → Q v H')
      (tP k Wf ma) (tP k Wf mb) (tP k Wf mc) σ H Q := by
  obtain ⟨L, S, g, l, w, p⟩ := h
  refine ⟨L, S, g, l, w, Post.bind p fun x S1 xv H1 g1 e1 w1 r1 p1 => ?_⟩
  refine ⟨L, S1, g1, l.ext e1, w1, Post.bind p1 fun y S2 yv H2 g2 e2 w2 r2 p2 => ?_⟩
  have l2 := (l.ext e1).ext e2
  cases q : o (deref S2 x) (deref S2 y) with
  | none => rw [q] at p2; exact p2.elim
  | some res =>
    rw [q] at p2
    cases res with
    | bl b =>
      refine ⟨g2, S2, _, _, _, w2, (r1.ext e2.toPExt).c l2 w2, r2.c l2 w2, q, fun v H3 g3 e3 w3 r3 => ?_⟩
      cases (show v = .bl b from r3)
      refine ⟨b, rfl, ?_⟩
      cases b with
      | false => exact Post.ret (Post.from p2 e3) w3 rfl
      | true =>
        refine ⟨L, S2, g3, l2.ext e3, w3, Post.bind (Post.from p2 e3) fun z S4 zv H4 g4 e4 w4 r4 p4 => ?_⟩
        have l4 := (l2.ext e3).ext e4
        cases q' : o' (deref S4 y) (deref S4 z) with
        | none => rw [q'] at p4; exact p4.elim
        | some res' =>
          rw [q'] at p4
          exact ⟨g4, S4, _, _, res', w4, ((r2.ext e3.toPExt).ext e4.toPExt).c l4 w4, r4.c l4 w4, q', p4⟩
    | _ => exact p2.elim
theorem last_marks {op op' : CmpOp} (h : notMark c = true) : lastMarks [op, op'] [b, c] = false := not_mark h
theorem se_chain {op op' : CmpOp} {o o' : D → D → Option D} (h : OpC X (compareOp op) o) (h' : OpC X (compareOp op') o') (ha : SP X W a ma) (hb : SP X W b mb) (hc : SP X W c mc) (hm : notMark c = true) :
    SE X W (.Compare a [op, op'] [b, c] pos) (eCh o o' ma mb mc) :=
  PE.imp (pe_chain (OpR.ex h) (OpR.ex h') ha hb hc (last_marks hm)) fun σ H Q q => ch_ops q
theorem RepL.atI {k : Kx} {H : Hp} {g : G} {ds : List D} {vs : List V} {i : Int} {d : D} (r : RepL k H g ds vs) (h : L2.atI ds i = some d) : ∃ v, L2.atI vs i = some v ∧ Rep k H g d v := by
  unfold L2.atI at h ⊢
  rw [r.length]
  cases q : ixN ds.length i with
  | none => rw [q] at h; cases h
  | some j =>
    rw [q] at h
    exact r.get h
def oIx : D → D → Option D
  | .lst xs, .int i => L2.atI xs i
  | .tup xs, .int i => L2.atI xs i
  | .str x, .int i => if x.length ≤ sizeLine then (L2.atI x i).map fun c => .str [c] else none
  | _, _ => none
theorem ix_ok : IxR X (fun x y H Q => ∃ g S d e res, WF (kx X) H g S ∧ CRep (kx X) H g d x ∧ CRep (kx X) H g e y ∧ oIx d e = some res ∧ ∀ v H' g', Ext H g H' g' → WF (kx X) H' g' S → Rep (kx X) H' g' res v → Q v H') := by
  rintro value slice pins s σ H x y v u Q I rx ry ⟨g, S, d, e, res, w, c1, c2, h, q⟩ hs
  unfold oIx at h
  split at h
  · cases c2
    obtain ⟨p, vs, rfl, hp, r⟩ := c1
    obtain ⟨z, hz, rz⟩ := r.atI h
    exact ix_list value slice pins s σ H _ _ v u Q I rx ry ⟨p, vs, _, z, rfl, rfl, SqL.of hp, hz, scalar_fin q w rz⟩ hs
  · cases c2
    obtain ⟨p, vs, rfl, hp, r⟩ := c1
    obtain ⟨z, hz, rz⟩ := r.atI h
    exact ix_tup value slice pins s σ H _ _ v u Q I rx ry ⟨p, vs, _, z, rfl, rfl, hp.sq, hz, scalar_fin q w rz⟩ hs
  · split at h
    · rename_i x i hz
      cases c2; cases c1
      obtain ⟨c, hc, rfl⟩ := Option.map_eq_some_iff.mp h
      exact ix_str value slice pins s σ H _ _ v u Q I rx ry ⟨_, _, c, rfl, rfl, by rw [mk_len]; exact hz, by simpa using hc, scalar_fin q w rfl⟩ hs
    · cases h
  · cases h
theorem se_ix (ha : SP X W a ma) (hb : SP X W b mb) (hn : notSlice b = true) : SE X W (.Subscript a b pos) (eBin oIx ma mb) :=
  PE.imp (pe_ix ix_ok ha hb (not_slice hn)) fun σ H Q q => two_ops q
/-- a slice's part -/
def tO (k : Kx) (W : WX) (m : Ls → Sto → R (Option Int)) : TO := fun σ H Q => ∃ L S g, LocRel k σ L H g ∧ WF k H g S ∧ Post k (fun _ _ (b c : Option Int) => c = b) H g (fun c d => W c d σ) (m L S) Q
abbrev SO (X : Cx) (W : WX) (e : Option Expr) (m : Ls → Sto → R (Option Int)) : Prop := PO X e (tO (kx X) W m)
def oNo : Ls → Sto → R (Option Int) := fun _ S => .ok none S
def oSo (m : EM) : Ls → Sto → R (Option Int) := fun L S => (m L S).bind fun d S1 => match d with
  | .int i => .ok (some i) S1
  | .non => .ok none S1
  | _ => .no
theorem so_none : SO X W none oNo := ⟨fun pins s σ H Q I ⟨L, S, g, l, w, p⟩ => po_none.run pins s σ H Q I (Post.ret p w rfl)⟩
theorem so_some (h : SE X W e m) : SO X W (some e) (oSo m) := by
  refine ⟨fun pins s σ H Q I ⟨L, S, g, l, w, p⟩ => ?_⟩
  rw [evalPart_some]
  refine thn (h.run pins s σ H (fun x H1 => ∃ o, (x = .non ∧ o = none ∨ ∃ i, x = .int i ∧ o = some i) ∧ Q o H1) I ⟨L, S, g, l, w, Post.bind p fun d S1 v H1 g1 e1 w1 r1 p1 => ?_⟩) fun u s1 ⟨x, H1, I1, r1, o, ho, q1⟩ => ?_
  · cases d with
    | non => cases r1; exact ⟨none, .inl ⟨rfl, rfl⟩, Post.ret p1 w1 rfl⟩
    | int i => cases r1; exact ⟨some i, .inr ⟨i, rfl, rfl⟩, Post.ret p1 w1 rfl⟩
    | _ => exact p1.elim
  · rcases ho with ⟨rfl, rfl⟩ | ⟨i, rfl, rfl⟩
    · cases r1
      exact ⟨none, H1, I1, .none, q1⟩
    · obtain ⟨t, rfl⟩ := r1
      exact ⟨some i, H1, I1, .int i t, q1⟩
def cutD {α : Type} (xs : List α) (lo hi : Option Int) : List α := (xs.drop (HT.sIx xs.length 0 lo)).take (HT.sIx xs.length xs.length hi - HT.sIx xs.length 0 lo)
def oSl : D → Option Int → Option Int → Option D
  | .lst xs, lo, hi => some (.lst (cutD xs lo hi))
  | .tup xs, lo, hi => some (.tup (cutD xs lo hi))
  | .str x, lo, hi => if x.length ≤ sizeLine then some (.str (cutD x lo hi)) else none
  | .scr ns, lo, hi => some (.lst (cutD (ns.map .int) lo hi))
  | _, _, _ => none
theorem RepL.cut {k : Kx} {H : Hp} {g : G} {ds : List D} {vs : List V} (r : RepL k H g ds vs) (lo hi : Option Int) : RepL k H g (cutD ds lo hi) (cutV vs lo hi) := by
  unfold cutD cutV
  rw [r.length]
  exact (r.drop _).take _
theorem RepL.ints {k : Kx} {H : Hp} {g : G} : ∀ ns : List Int, RepL k H g (ns.map .int) (ns.map V.int)
  | [] => rfl
  | n :: ns => ⟨_, _, rfl, rfl, RepL.ints ns⟩
theorem sl_ok : SlR X (fun x lo hi H Q => ∃ g S d res, WF (kx X) H g S ∧ CRep (kx X) H g d x ∧ oSl d lo hi = some res ∧ ∀ v H' g', Ext H g H' g' → WF (kx X) H' g' S → Rep (kx X) H' g' res v → Q v H') := by
  rintro pins s σ H x v vl vu lo hi sl Q I rx hs pl pu ⟨g, S, d, res, w, c, h, q⟩
  cases d with
  | lst xs =>
    cases h
    obtain ⟨p, vs, rfl, hp, r⟩ := c
    exact sl_list pins s σ H _ v vl vu lo hi sl Q I rx hs pl pu ⟨p, vs, rfl, SqL.of hp, fun p' hp' => lst_fin q w (r.cut lo hi) hp'⟩
  | scr ns =>
    cases h
    obtain ⟨p, rfl, hp⟩ := c
    exact sl_list pins s σ H _ v vl vu lo hi sl Q I rx hs pl pu ⟨p, _, rfl, hp.sq, fun p' hp' => lst_fin q w ((RepL.ints ns).cut lo hi) hp'⟩
  | tup xs =>
    cases h
    obtain ⟨p, vs, rfl, hp, r⟩ := c
    refine sl_tupA pins s σ H _ v vl vu lo hi sl Q I rx hs pl pu ⟨p, vs, rfl, hp.sq, fun hw => scalar_fin q w ⟨p, vs, rfl, hp, ?_⟩, fun _ p' hp' => tup_fin q w (r.cut lo hi) hp'⟩
    have e : cutD xs lo hi = xs := by
      unfold cutD
      rw [r.length] at hw
      rw [hw.1, hw.2, List.drop_zero, Nat.sub_zero, List.take_length]
    rw [e]; exact r
  | str z =>
    simp only [oSl] at h
    split at h
    · rename_i hz
      cases h
      cases c
      refine sl_str pins s σ H _ v vl vu lo hi sl Q I rx hs pl pu ⟨_, rfl, by rw [mk_len]; exact hz, scalar_fin q w ?_⟩
      show V.str (cutS _ lo hi) = V.str _
      unfold cutS cutD
      rw [mk_len]
    · cases h
  | _ => cases h
def eSl (ma : EM) (ml mh : Ls → Sto → R (Option Int)) : EM := fun L S => (ma L S).bind fun d S1 => (ml L S1).bind fun lo S2 => (mh L S2).bind fun hi S3 => lift (oSl (deref S3 d) lo hi) S3
theorem se_sl {lo hi : Option Expr} {ml mh : Ls → Sto → R (Option Int)} {p2 : Pos} (ha : SP X W a ma) (hl : SO X W lo ml) (hh : SO X W hi mh) : SE X W (.Subscript a (.Slice lo hi none p2) pos) (eSl ma ml mh) :=
  PE.imp (pe_slice sl_ok ha hl hh) fun σ H Q ⟨L, S, g, l, w, p⟩ => ⟨L, S, g, l, w, Post.bind p fun d S1 v H1 g1 e1 w1 r1 p1 =>
    ⟨L, S1, g1, l.ext e1, w1, Post.bind p1 fun lo' S2 lo2 H2 g2 e2 w2 r2 p2 => by
      cases r2
      exact ⟨L, S2, g2, (l.ext e1).ext e2, w2, Post.bind p2 fun hi' S3 hi2 H3 g3 e3 w3 r3 p3 => by
        cases r3
        have l3 := ((l.ext e1).ext e2).ext e3
        cases q : oSl (deref S3 d) lo' hi' with
        | none => rw [q] at p3; exact p3.elim
        | some res =>
          rw [q] at p3
          exact ⟨g3, S3, _, res, w3, ((r1.ext e2.toPExt).ext e3.toPExt).c l3 w3, q, p3⟩⟩⟩⟩
end
end Rf
set_option Elab.async false
set_option linter.all false
set_option maxRecDepth 100000
namespace Rf
open PySem L2 TL
def CRepL (k : Kx) (H : Hp) (g : G) : List D → List V → Prop
  | [], vs => vs = []
  | d :: ds, vs => ∃ v r, vs = v :: r ∧ CRep k H g d v ∧ CRepL k H g ds r
theorem PkL.c {k : Kx} {σ : L2.St} {L : Ls} {H : Hp} {g : G} {S : Sto} (l : LocRel k σ L H g) (w : WF k H g S) : ∀ {ds : List D} {vs : List V}, PkL k σ L H g ds vs → CRepL k H g (ds.map (deref S)) vs
  | [], _, h => h
  | _ :: _, _, ⟨v, r, h1, h2, h3⟩ => ⟨v, r, h1, h2.c l w, PkL.c l w h3⟩
/-- a call on contents -/
def CallC (X : Cx) (f : Value) (o : List D → Option D) : Prop :=
  ∀ (ds : List D) (res : D), o ds = some res → CallR X f (fun xs H Q => ∃ g S, WF (kx X) H g S ∧ CRepL (kx X) H g ds xs ∧
    ∀ v H' g', Ext H g H' g' → WF (kx X) H' g' S → Rep (kx X) H' g' res v → Q v H')
theorem CallR.ex {X : Cx} {f : Value} {o : List D → Option D} (h : CallC X f o) : CallR X f (fun xs H Q => ∃ g S ds res, WF (kx X) H g S ∧ CRepL (kx X) H g ds xs ∧ o ds = some res ∧
    ∀ v H' g', Ext H g H' g' → WF (kx X) H' g' S → Rep (kx X) H' g' res v → Q v H') := by
  intro pins s σ H xs us Q I r q
  obtain ⟨g, S, ds, res, w, c, q1, q2⟩ := q
  exact h ds res q1 pins s σ H xs us Q I r ⟨g, S, w, c, q2⟩
def eCall (o : List D → Option D) (ma : Ls → Sto → R (List D)) : EM := fun L S => (ma L S).bind fun ds S1 => lift (o (ds.map (deref S1))) S1
theorem call_ops {k : Kx} {o : List D → Option D} {σ : L2.St} {H : Hp} {Q : VK} {Wf : WX} {ma : Ls → Sto → R (List D)} (h : tE k Wf (eCall o ma) σ H Q) :
    tA k Wf ma σ H fun xs H1 => ∃ g S ds res, WF k H1 g S ∧ CRepL k H1 g ds xs ∧ o ds = some res ∧ ∀ v H' g', Ext H1 g H' g' → WF k H' g' S → Rep k H' g' res v → Q v H' := by
  obtain ⟨L, S, g, l, w, p⟩ := h
  refine ⟨L, S, g, l, w, Post.bind p fun ds S1 vs H1 g1 e1 w1 r1 p1 => ?_⟩
  cases q : o (ds.map (deref S1)) with
  | none => rw [q] at p1; exact p1.elim
  | some res =>
    rw [q] at p1
    exact ⟨g1, S1, _, res, w1, r1.c (l.ext e1) w1, q, p1⟩
section
variable {X : Cx} {W : WX} {e : Expr} {es : List Expr} {x : Str} {p pos : Pos} {ma : Ls → Sto → R (List D)} {o : List D → Option D}
theorem se_callB {id : String} (h : CallC X (.builtin id) o) (hg : Gl X x) (hm : X.mg x = none) (hv : bootBuiltins x = some (.builtin id)) (ha : SA X W (e :: es) ma) (hs : (e :: es).all noStar = true) (hn : x ≠ "__name__") (hd : (x == ("__debug__" : Str)) = false) :
    SE X W (.Call (.Name x p) (e :: es) [] pos) (eCall o ma) := by
  have hs' : noStar e = true ∧ es.all noStar = true := by rwa [List.all_cons, Bool.and_eq_true] at hs
  exact PE.imp (pe_callB (CallR.ex h) hg hm hv ha hn hd (star_cons hs'.1) (star_any hs'.2)) fun σ H Q q => call_ops q
theorem se_callT {T : String} (h : CallC X (.type T) o) (hg : Gl X x) (hm : X.mg x = none) (hv : bootBuiltins x = some (.type T)) (ha : SA X W (e :: es) ma) (hs : (e :: es).all noStar = true) (hn : x ≠ "__name__") (hd : (x == ("__debug__" : Str)) = false) :
    SE X W (.Call (.Name x p) (e :: es) [] pos) (eCall o ma) := by
  have hs' : noStar e = true ∧ es.all noStar = true := by rwa [List.all_cons, Bool.and_eq_true] at hs
  exact PE.imp (pe_callTy (CallR.ex h) hg hm hv ha hn hd (star_cons hs'.1) (star_any hs'.2)) fun σ H Q q => call_ops q
end
def fCall (o : List D → Option (List D)) (ma : Ls → Sto → R (List D)) : Ls → Sto → R (List D) := fun L S => (ma L S).bind fun ds S1 => lift (o (ds.map (deref S1))) S1
def lenD : D → Option Nat
  | .str x => if x.length ≤ sizeLine then some x.length else none
  | .tup xs => some xs.length
  | .lst xs => some xs.length
  | .scr ns => some ns.length
  | _ => none
def bLen : List D → Option D
  | [d] => (lenD d).map fun (n : Nat) => D.int (n : Int)
  | _ => none
def bAbs : List D → Option D
  | [.int i] => some (.int (if i < 0 then -i else i))
  | _ => none
def bInt : List D → Option D
  | [.int i] => some (.int i)
  | [.bl b] => some (.int (if b then 1 else 0))
  | _ => none
def bMax2 : List D → Option D
  | [.int i, .int j] => some (.int (if j > i then j else i))
  | _ => none
def blsD : List D → Option (List Bool)
  | [] => some []
  | .bl b :: ds => (blsD ds).map (b :: ·)
  | _ :: _ => none
def bAll : List D → Option D
  | [.lst ds] => (blsD ds).map fun bs => .bl (bs.all id)
  | _ => none
theorem blsD_v {k : Kx} {H : Hp} {g : G} : ∀ {ds : List D} {vs : List V} {ns : List Bool}, blsD ds = some ns → RepL k H g ds vs → vs = ns.map V.bl
  | [], _, _, h, r => by cases h; exact r
  | .bl i :: ds, _, ns, h, ⟨v, u, h1, h2, h3⟩ => by
    simp only [blsD, Option.map_eq_some_iff] at h
    obtain ⟨ms, hm, rfl⟩ := h
    cases h2
    rw [h1, blsD_v hm h3] <;> rfl
  | .non :: _, _, _, h, _ => by cases h
  | .int _ :: _, _, _, h, _ => by cases h
  | .str _ :: _, _, _, h, _ => by cases h
  | .tup _ :: _, _, _, h, _ => by cases h
  | .lst _ :: _, _, _, h, _ => by cases h
  | .obj _ :: _, _, _, h, _ => by cases h
  | .gl _ :: _, _, _, h, _ => by cases h
  | .ty _ :: _, _, _, h, _ => by cases h
  | .scr _ :: _, _, _, h, _ => by cases h
section
variable {X : Cx}
theorem c1 {k : Kx} {H : Hp} {g : G} {d : D} {vs : List V} (h : CRepL k H g [d] vs) : ∃ v, vs = [v] ∧ CRep k H g d v := by
  obtain ⟨v, r, h1, h2, h3⟩ := h
  cases (show r = [] from h3)
  exact ⟨v, h1, h2⟩
theorem c2 {k : Kx} {H : Hp} {g : G} {d e : D} {vs : List V} (h : CRepL k H g [d, e] vs) : ∃ v u, vs = [v, u] ∧ CRep k H g d v ∧ CRep k H g e u := by
  obtain ⟨v, r, h1, h2, h3⟩ := h
  obtain ⟨u, rfl, h4⟩ := c1 h3
  exact ⟨v, u, h1, h2, h4⟩
theorem bLen_ok : CallC X (.builtin "len") bLen := by
  rintro ds res h pins s σ H xs us Q I r ⟨g, S, w, c, q⟩
  unfold bLen at h
  split at h
  · rename_i d
    obtain ⟨v, rfl, cv⟩ := c1 c
    obtain ⟨n, hn, rfl⟩ := Option.map_eq_some_iff.mp h
    refine call_len pins s σ H _ us Q I r ⟨v, n, rfl, ?_, scalar_fin q w rfl⟩
    cases d with
    | str x =>
      simp only [lenD] at hn
      split at hn
      · rename_i hz
        cases hn; cases cv
        exact ⟨by rw [mk_len]; exact hz, by rw [mk_len]⟩
      · cases hn
    | tup xs =>
      cases hn
      obtain ⟨p, vs, rfl, hp, r⟩ := cv
      exact .inr ⟨vs, hp.sq, r.length.symm⟩
    | lst xs =>
      cases hn
      obtain ⟨p, vs, rfl, hp, r⟩ := cv
      exact .inl ⟨vs, SqL.of hp, r.length.symm⟩
    | scr ns =>
      cases hn
      obtain ⟨p, rfl, hp⟩ := cv
      exact .inl ⟨_, hp.sq, (List.length_map _).symm⟩
    | _ => cases hn
  · cases h
theorem bAbs_ok : CallC X (.builtin "abs") bAbs := by
  rintro ds res h pins s σ H xs us Q I r ⟨g, S, w, c, q⟩
  unfold bAbs at h
  split at h
  · cases h
    obtain ⟨v, rfl, cv⟩ := c1 c
    cases cv
    exact call_abs pins s σ H _ us Q I r ⟨_, rfl, scalar_fin q w rfl⟩
  · cases h
theorem bInt_ok : CallC X (.type "int") bInt := by
  rintro ds res h pins s σ H xs us Q I r ⟨g, S, w, c, q⟩
  unfold bInt at h
  split at h
  · cases h
    obtain ⟨v, rfl, cv⟩ := c1 c
    cases cv
    exact call_int1 pins s σ H _ us Q I r (.inl ⟨_, rfl, scalar_fin q w rfl⟩)
  · cases h
    obtain ⟨v, rfl, cv⟩ := c1 c
    cases cv
    exact call_int1 pins s σ H _ us Q I r (.inr ⟨_, rfl, scalar_fin q w rfl⟩)
  · cases h
theorem bMax2_ok (hc : X.calm = true) : CallC X (.builtin "max") bMax2 := by
  rintro ds res h pins s σ H xs us Q I r ⟨g, S, w, c, q⟩
  unfold bMax2 at h
  split at h
  · cases h
    obtain ⟨v, u, rfl, cv, cv'⟩ := c2 c
    cases cv; cases cv'
    exact call_max2 hc pins s σ H _ us Q I r ⟨_, _, rfl, scalar_fin q w rfl⟩
  · cases h
theorem bAll_ok (hc : X.calm = true) : CallC X (.builtin "all") bAll := by
  rintro ds res h pins s σ H xs us Q I r ⟨g, S, w, c, q⟩
  unfold bAll at h
  split at h
  · obtain ⟨ns, hn, rfl⟩ := Option.map_eq_some_iff.mp h
    obtain ⟨v, rfl, p, vs, rfl, hp, rr⟩ := c1 c
    rw [blsD_v hn rr] at hp
    exact cr_all hc pins s σ H _ us Q I r ⟨p, ns, rfl, SqL.of hp, scalar_fin q w rfl⟩
  · cases h
end
/-- whether a value is of the built-in class t -/
def isTy (d : D) (t : String) : Option Bool :=
  if t = "str" ∨ t = "int" ∨ t = "bool" ∨ t = "tuple" ∨ t = "list" ∨ t = "dict" then
    match d with
    | .non => some false
    | .bl _ => some (t == "bool" || t == "int")
    | .int _ => some (t == "int")
    | .str _ => some (t == "str")
    | .tup _ => some (t == "tuple")
    | .lst _ => some (t == "list")
    | .edc => some (t == "dict")
    | _ => none
  else none
def isTyA (d : D) : List D → Option Bool
  | [] => some false
  | .ty t :: ts => match isTy d t, isTyA d ts with
    | some b, some r => some (b || r)
    | _, _ => none
  | _ :: _ => none
def bIsI : List D → Option D
  | [d, .ty t] => (isTy d t).map .bl
  | [d, .tup ts] => if ts = [] then none else (isTyA d ts).map .bl
  | _ => none
end Rf
set_option Elab.async false
set_option linter.all false
set_option maxRecDepth 100000
namespace Rf
open PySem L2 TL
def strsD : List D → Option (List (List Nat))
  | [] => some []
  | .str x :: ds => (strsD ds).map (x :: ·)
  | _ :: _ => none
def eM1 (o : List Nat → D → Option D) (mo me : EM) : EM := fun L S => (mo L S).bind fun d S1 => match d with
  | .str a => (me L S1).bind fun d2 S2 => lift (o a (deref S2 d2)) S2
  | _ => .no
def eM0 (o : D → Option D) (mo : EM) : EM := fun L S => (mo L S).bind fun d S1 => lift (o d) S1
abbrev Fn := List D → Sto → R D
/-- the promise of a def that does c -/
def spC (k : Kx) (c : Fn) : Sp := fun vs H Q E => ∃ ds S g, RepL k H g ds vs ∧ WF k H g S ∧ Post k (Rep k) H g E (c ds S) Q
theorem spC.kc {k k' : Kx} {c : Fn} {vs : List V} {H : Hp} {Q : VK} {E : XK} (h1 : k'.K = k.K) (h2 : k'.mg = k.mg) (h3 : k'.w = k.w) (h : spC k c vs H Q E) : spC k' c vs H Q E := by
  obtain ⟨ds, S, g, r, w, p⟩ := h
  exact ⟨ds, S, g, RepL.kc h1 h2 _ _ r, w.kc h1 h2 h3, p.kc h1 h2 h3⟩
structure RoomG (k : Nat) (A : Around) : Prop extends Room k A where
  gd : A.guards = some []
theorem RoomG.mono {j k : Nat} {A : Around} (r : RoomG k A) (h : j ≤ k) : RoomG j A := ⟨r.toRoom.mono h, r.gd⟩
theorem RoomG.deeper {k : Nat} {A : Around} (r : RoomG (k + 1) A) (env : Env) : RoomG k (A.deeper env) := ⟨r.toRoom.deeper env, r.gd⟩
/-- a def's promise where no repr is under way -/
structure FnOkG (P : Program) (w : World) (K : PySem.W.Frag) (mg : Str → Option Value) (base : Heap) (CX : CXT) (k : Nat) (f : Addr) (fd : FuncData) (ps : List Str) (sp : Sp) : Prop where
  len : ∀ vs H Q E, sp vs H Q E → vs.length = ps.length
  run : ∀ (A : Around) (outer : List Env) (s : Shared) (H : Hp) (args : Args) (us : List Value) (vs : List V) (Q : VK) (E : XK), RoomG k A → Env0 P w K mg base A outer s H → BindsTo s fd args (ps.zip us) → Vals vs us → sp vs H Q E →
    codeAny (model P w) A (.call (.ref f) args) (CR CX outer P w H s Q E) s
section
variable {X : Cx} {CX : CXT} {k n : Nat} {f C : Addr} {fd : FuncData} {ps ks : List Str} {sp : Sp} {dvs : List V} {ds : List Value} {E : L2.St → XK} {E0 : XK} {x : Str} {p pos : Pos} {e : Expr} {es : List Expr} {kws : List Keyword} {t tk : TA} {g : List Value → List Value → List Value} {gV : List V → List V → List V}
/-- what a call comes to, whatever binds -/
theorem run_any {pins : List (Addr × Obj)} {σ : L2.St} {H : Hp} {s : Shared} {Q : VK} {args : Args} {us : List Value} {vs : List V} (F : FnOkG X.prog X.w X.K X.mg X.base CX k f fd ps sp) (hr : RoomG k X.A) (hx : PassesAt CX X σ E0)
    (I : Inv X pins σ H s) (b : BindsTo s fd args (ps.zip us)) (r : Vals vs us) (h : sp vs H Q E0) : wpAny (model X.prog X.w) X.A (call (.ref f) args.pos args.kw) (EP X pins σ Q) X.xe s := by
  refine wpAny_call (codeAny_mono (F.run X.A X.stack s H args us vs Q E0 hr I.env0 b r h) fun r s' hq => ?_)
  match r, hq with
  | .error e, hq => exact hx pins H s e s' I hq
  | .ok (.ret u), hq => exact I.after hq
theorem run_fnG {pins : List (Addr × Obj)} {σ : L2.St} {H : Hp} {s : Shared} {Q : VK} {us : List Value} {vs : List V} (F : FnOkG X.prog X.w X.K X.mg X.base CX k f fd ps sp) (hr : RoomG k X.A) (hb : Binds X.K fd ps ds) (hd : Vals dvs ds) (hx : PassesAt CX X σ E0)
    (I : Inv X pins σ H s) (r : Vals vs us) (h : sp (vs ++ dvs) H Q E0) : wpAny (model X.prog X.w) X.A (call (.ref f) us) (EP X pins σ Q) X.xe s :=
  run_any F hr hx I (hb s us I.kIn (by rw [← (r.append hd).length]; exact F.len _ _ _ _ h)) (r.append hd) h
theorem run_fnG0 {pins : List (Addr × Obj)} {σ : L2.St} {H : Hp} {s : Shared} {Q : VK} {us : List Value} {vs : List V} (F : FnOkG X.prog X.w X.K X.mg X.base CX k f fd ps sp) (hr : RoomG k X.A) (hb : Binds X.K fd ps []) (hx : PassesAt CX X σ E0)
    (I : Inv X pins σ H s) (r : Vals vs us) (h : sp vs H Q E0) : wpAny (model X.prog X.w) X.A (call (.ref f) us) (EP X pins σ Q) X.xe s :=
  run_fnG (dvs := []) F hr hb .nil hx I r (by rw [List.append_nil]; exact h)
theorem pe_callG (F : FnOkG X.prog X.w X.K X.mg X.base CX k f fd ps sp) (hr : RoomG k X.A) (hg : Gl X x) (hm : X.mg x = some (.ref f)) (hk : PySem.W.keepIn X.K (.ref f) = true) (hb : Binds X.K fd ps ds) (hd : Vals dvs ds) (hx : ∀ σ, PassesAt CX X σ (E σ))
    (ha : PA X (e :: es) t) (hdb : (x == ("__debug__" : Str)) = false) (he : starEach (e :: es) X.env = (false, eval e X.env) :: starEach es X.env) (hpl : (backTo pos (starEach es X.env)).any (·.1) = false) :
    PE X (.Call (.Name x p) (e :: es) [] pos) (tCallSD sp dvs E t) :=
  ⟨fun pins s σ H Q I h => wpAny_Call_Name_kw (ld_glob I hg hm (PySem.W.callWith_K (h₀ := X.base) I.ok.mod.kin hk (thn (ha.run pos pins s σ H _ I h) fun us s1 ⟨vs, H1, I1, r, q⟩ => ⟨I1.kIn, run_fnG F hr hb hd (hx σ) I1 r q⟩) he hpl) hdb)⟩
end
/-- the name x stands for a def that does c -/
def FnAt (X : Cx) (x : Str) (c : Fn) : Prop := ∃ (j : Nat) (f : Addr) (fd : FuncData) (ps : List Str), FnOkG X.prog X.w X.K X.mg X.base (L2N.CX X.prog X.w) j f fd ps (spC (k0 X.K X.mg X.w) c) ∧ RoomG j X.A ∧
  X.mg x = some (.ref f) ∧ PySem.W.keepIn X.K (.ref f) = true ∧ Binds X.K fd ps []
def eFn (c : Fn) (ma : Ls → Sto → R (List D)) : EM := fun L S => (ma L S).bind c
section
variable {X : Cx} {W : WX} {e : Expr} {es : List Expr} {x : Str} {p pos : Pos} {c : Fn} {ma : Ls → Sto → R (List D)}
theorem se_call (F : FnAt X x c) (hg : Gl X x) (tk : L2N.Takes X W) (ha : SAE X W (e :: es) ma) (hs : (e :: es).all noStar = true) (hdb : (x == ("__debug__" : Str)) = false) : SE X W (.Call (.Name x p) (e :: es) [] pos) (eFn c ma) := by
  obtain ⟨j, f, fd, ps, F, hr, hm, hk, hb⟩ := F
  have hs' : noStar e = true ∧ es.all noStar = true := by rwa [List.all_cons, Bool.and_eq_true] at hs
  exact PE.imp (pe_callG (dvs := []) F hr hg hm hk hb .nil (fun σ => L2N.passAt tk σ) ha hdb (star_cons hs'.1) (star_any hs'.2)) fun σ H Q ⟨L, S, g, l, w, p⟩ => ⟨L, S, g, l, w, Post.bind p fun ds S1 vs H1 g1 e1 w1 r1 p1 => by
    rw [List.append_nil]
    exact spC.kc (k := kx X) rfl rfl rfl ⟨ds, S1, g1, r1, w1, p1⟩⟩
end
end Rf
set_option Elab.async false
set_option linter.all false
set_option maxRecDepth 100000
namespace Rf
open PySem L2 TL
/-- the lists of the store that must stay as they are -/
abbrev Dep := Option (List (Nat × List D))
def DepC (S : Sto) (l : List (Nat × List D)) : Prop := ∀ p ∈ l, S[p.1]? = some (.lst p.2)
abbrev Src := List D × Dep
def DepOk (S : Sto) (ds : List D) : Dep → Prop
  | none => True
  | some l => DepC S l
/-- whatever has gone on by Rl, the walk yields the items -/
def Yields (k : Kx) (Rl : Hp → G → Hp → G → Prop) (J : It) (H : Hp) (g : G) (ds : List D) (dep : Dep) : Prop :=
  ∀ H2 g2 S2 i, Rl H g H2 g2 → WF k H2 g2 S2 → DepOk S2 ds dep → (ds.length = i → J.stop i H2) ∧
    ∀ d, ds[i]? = some d → J.go i H2 ∧ ∀ x H3, J.yld i H2 x H3 → Ext H2 g2 H3 g2 ∧ WF k H3 g2 S2 ∧ Rep k H3 g2 d x
/-- a relation that keeps what stands -/
def Rl1 (Rl : Hp → G → Hp → G → Prop) : Prop := ∀ H g H' g', Rl H g H' g' → PExt H g H' g'
section
variable {k : Kx} {Rl : Hp → G → Hp → G → Prop} {H : Hp} {g : G} {S : Sto} {a : Addr} {vs : List V} {ds : List D}
theorem yl_list (hR : Rl1 Rl) (hk : ∀ H2 g2, Rl H g H2 g2 → H2 a = some (.lst vs)) (r : RepL k H g ds vs) : Yields k Rl (Itl k.K a) H g ds none := fun H2 g2 S2 i rl w _ => by
  have h2 : SqL k.K H2 a vs := SqL.of (hk H2 g2 rl)
  refine ⟨fun e => ⟨vs, h2, by rw [r.length, e]; exact Nat.le_refl _⟩, fun d hd => ?_⟩
  obtain ⟨v, hv, rv⟩ := r.get hd
  refine ⟨⟨vs, v, h2, hv⟩, fun x H3 ⟨e, y⟩ => ?_⟩
  subst e
  have := y vs h2
  rw [hv] at this
  cases this
  exact ⟨Ext.refl _ _, w, rv.mono (hR _ _ _ _ rl) _ _⟩
theorem yl_obj {n : Nat} (hR : Rl1 Rl) (hn : n < g.n) : Yields k Rl (Itl k.K (g.ρ n)) H g ds (some [(n, ds)]) := fun H2 g2 S2 i rl w dep => by
  obtain ⟨us, h2, r⟩ := w.ob n _ (dep (n, ds) (List.mem_singleton.mpr rfl))
  rw [(hR _ _ _ _ rl).ρ n hn] at h2
  have h3 : SqL k.K H2 (g.ρ n) us := SqL.of h2
  refine ⟨fun e => ⟨us, h3, by rw [r.length, e]; exact Nat.le_refl _⟩, fun d hd => ?_⟩
  obtain ⟨v, hv, rv⟩ := r.get hd
  refine ⟨⟨us, v, h3, hv⟩, fun x H3 ⟨e, y⟩ => ?_⟩
  subst e
  have := y us h3
  rw [hv] at this
  cases this
  exact ⟨Ext.refl _ _, w, rv⟩
theorem yl_scr {ns : List Int} (hR : Rl1 Rl) (h : ScrAt k.K H a (ns.map V.int)) : Yields k Rl (Itl k.K a) H g (ns.map .int) none := fun H2 g2 S2 i rl w _ => by
  have h2 : SqL k.K H2 a (ns.map V.int) := (scrAt_mono (k := k) (hR _ _ _ _ rl) h).sq
  have r : RepL k H g (ns.map .int) (ns.map V.int) := RepL.ints ns
  refine ⟨fun e => ⟨_, h2, by rw [r.length, e]; exact Nat.le_refl _⟩, fun d hd => ?_⟩
  obtain ⟨v, hv, rv⟩ := r.get hd
  refine ⟨⟨_, v, h2, hv⟩, fun x H3 ⟨e, y⟩ => ?_⟩
  subst e
  have := y _ h2
  rw [hv] at this
  cases this
  exact ⟨Ext.refl _ _, w, rv.mono (hR _ _ _ _ rl) _ _⟩
theorem yl_tup (hR : Rl1 Rl) (h : TupAt k.K H a vs) (r : RepL k H g ds vs) : Yields k Rl (Itt k.K a) H g ds none := fun H2 g2 S2 i rl w _ => by
  have h2 : SqT k.K H2 a vs := (tupAt_mono (k := k) (hR _ _ _ _ rl) h).sq
  refine ⟨fun e => ⟨vs, h2, by rw [r.length, e]; exact Nat.le_refl _⟩, fun d hd => ?_⟩
  obtain ⟨v, hv, rv⟩ := r.get hd
  refine ⟨⟨vs, v, h2, hv⟩, fun x H3 ⟨e, y⟩ => ?_⟩
  subst e
  have := y vs h2
  rw [hv] at this
  cases this
  exact ⟨Ext.refl _ _, w, rv.mono (hR _ _ _ _ rl) _ _⟩
def strI (x : List Nat) : List D := x.map fun c => .str [c]
theorem yl_str {x : List Nat} : Yields k Rl (Its ⟨x.toArray⟩) H g (strI x) none := fun H2 g2 S2 i rl w _ => by
  refine ⟨fun e => ?_, fun d hd => ?_⟩
  · show (⟨x.toArray⟩ : Str).cps.size ≤ i
    rw [← e]
    simp [strI]
  · unfold strI at hd
    rw [List.getElem?_map, Option.map_eq_some_iff] at hd
    obtain ⟨c, hc, rfl⟩ := hd
    have hi := (List.getElem?_eq_some_iff.mp hc).1
    refine ⟨by show i < (⟨x.toArray⟩ : Str).cps.size; simpa using hi, fun v H3 ⟨e, c', hc', ev⟩ => ?_⟩
    subst e
    have : x[i]? = some c' := by simpa using hc'
    rw [hc] at this
    cases this
    exact ⟨Ext.refl _ _, w, ev⟩
def rngI (lo : Int) (n : Nat) : List D := (List.range n).map fun (i : Nat) => .int (lo + i)
theorem yl_rng {lo : Int} {n : Nat} : Yields k Rl (Itr lo n) H g (rngI lo n) none := fun H2 g2 S2 i rl w _ => by
  refine ⟨fun e => ?_, fun d hd => ?_⟩
  · show n ≤ i
    rw [← e]
    simp [rngI]
  · unfold rngI at hd
    rw [List.getElem?_map, Option.map_eq_some_iff] at hd
    obtain ⟨c, hc, rfl⟩ := hd
    obtain ⟨hi, ec⟩ := List.getElem?_eq_some_iff.mp hc
    rw [List.length_range] at hi
    rw [List.getElem_range] at ec
    subst ec
    refine ⟨hi, fun v H3 ⟨e, ev⟩ => ?_⟩
    subst e
    exact ⟨Ext.refl _ _, w, ev⟩
def pairI (ds es : List D) : List D := (ds.zip es).map fun p => .tup [p.1, p.2]
end
end Rf
set_option Elab.async false
set_option linter.all false
set_option maxRecDepth 100000
namespace Rf
open PySem L2 TL
abbrev OpP := L2.St → Ls → Hp → G → D → V → Prop
def tQ (k : Kx) (W : WX) (P : OpP) (m : EM) : TE := fun σ H Q => ∃ L S g, LocRel k σ L H g ∧ WF k H g S ∧ Post k (P σ L) H g (fun c d => W c d σ) (m L S) Q
def PL (P : OpP) (σ : L2.St) (L : Ls) (H : Hp) (g : G) : List D → List V → Prop
  | [], vs => vs = []
  | d :: ds, vs => ∃ v r, vs = v :: r ∧ P σ L H g d v ∧ PL P σ L H g ds r
def tQA (k : Kx) (W : WX) (P : OpP) (m : Ls → Sto → R (List D)) : TA := fun σ H Q => ∃ L S g, LocRel k σ L H g ∧ WF k H g S ∧ Post k (PL P σ L) H g (fun c d => W c d σ) (m L S) Q
/-- a value that may be walked while Rl holds -/
def MdRep (k : Kx) (Rl : Hp → G → Hp → G → Prop) (H : Hp) (g : G) : D → V → Prop
  | .lst ds, v => ∃ a vs, v = .ref a ∧ H a = some (.lst vs) ∧ (∀ H2 g2, Rl H g H2 g2 → H2 a = some (.lst vs)) ∧ RepL k H g ds vs
  | d, v => Rep k H g d v
/-- operands of kind P may be walked under Rl -/
structure Md (k : Kx) (Rl : Hp → G → Hp → G → Prop) (P : OpP) : Prop where
  r1 : Rl1 Rl
  md : ∀ {σ L H g d v}, LocRel k σ L H g → P σ L H g d v → MdRep k Rl H g d v
  pk : ∀ {σ L H g d v}, P σ L H g d v → PkRep k σ L H g d v
def PRep (k : Kx) : OpP := fun _ _ => Rep k
def PPk (k : Kx) : OpP := PkRep k
theorem md_p {k : Kx} : Md k PExt (PRep k) where
  r1 := fun _ _ _ _ h => h
  md := fun {σ L H g d v} _ h => by
    cases d with
    | lst ds => obtain ⟨a, vs, h1, h2, h3, h4⟩ := (show Rep k H g (.lst ds) v from h); exact ⟨a, vs, h1, h3, fun H2 g2 e => e.kF _ _ h2 h3, h4⟩
    | _ => exact h
  pk := fun h => .inl h
theorem md_e {k : Kx} : Md k Ext (PPk k) where
  r1 := fun _ _ _ _ h => h.toPExt
  md := fun {σ L H g d v} l h => by
    rcases (show PkRep k σ L H g d v from h) with h | ⟨i, ds, h1, rfl, h3⟩
    · cases d with
      | lst ds => obtain ⟨a, vs, h1, h2, h3, h4⟩ := h; exact ⟨a, vs, h1, h3, fun H2 g2 e => e.kF _ _ h2 h3, h4⟩
      | _ => exact h
    · obtain ⟨a, q, ⟨vs, e, r⟩, h4, h5⟩ := l.own i _ h1
      rw [h3] at q
      cases q
      exact ⟨a, vs, rfl, e, fun H2 g2 x => x.keep _ _ e h5, r⟩
  pk := fun h => h
theorem PI.or {X : Cx} {tg e : Expr} {w1 w2 : TI} (h1 : PI X tg e w1) (h2 : PI X tg e w2) : PI X tg e (fun σ H R => w1 σ H R ∨ w2 σ H R) := ⟨fun pins s σ H R I h => h.elim (h1.run pins s σ H R I) (h2.run pins s σ H R I)⟩
theorem PI.imp {X : Cx} {tg e : Expr} {t t' : TI} (h : PI X tg e t) (i : ∀ σ H Q, t' σ H Q → t σ H Q) : PI X tg e t' := ⟨fun pins s σ H Q I q => h.run pins s σ H Q I (i σ H Q q)⟩
def tI (k : Kx) (Rl : Hp → G → Hp → G → Prop) (W : WX) (m : Ls → Sto → R Src) : TI := fun σ H Q => ∃ L S g, LocRel k σ L H g ∧ WF k H g S ∧
  Post k (fun H' g' (s : Src) (J : It) => Yields k Rl J H' g' s.1 s.2) H g (fun c d => W c d σ) (m L S) Q
def srcOf (S : Sto) : D → Option Src
  | .lst ds => some (ds, none)
  | .tup ds => some (ds, none)
  | .str x => some (strI x, none)
  | .scr ns => some (ns.map .int, none)
  | .obj n => match S[n]? with
    | some (.lst ds) => some (ds, some [(n, ds)])
    | _ => none
  | _ => none
def iVal (m : EM) : Ls → Sto → R Src := fun L S => (m L S).bind fun d S1 => lift (srcOf S1 d) S1
def rng1 : List D → Option Src
  | [.int j] => if -(2 ^ 62) ≤ j ∧ j < 2 ^ 62 then some (rngI 0 j.toNat, none) else none
  | _ => none
def zipOf : List D → Option Src
  | [.lst ds, .lst es] => some (pairI ds es, none)
  | [.tup ds, .tup es] => some (pairI ds es, none)
  | _ => none
def zipS (S : Sto) : List D → Option Src
  | [.obj n, .obj m] => match S[n]?, S[m]? with
    | some (.lst ds), some (.lst es) => some (pairI ds es, some [(n, ds), (m, es)])
    | _, _ => none
  | ds => zipOf ds
def iArS (o : Sto → List D → Option Src) (ma : Ls → Sto → R (List D)) : Ls → Sto → R Src := fun L S => (ma L S).bind fun ds S1 => lift (o S1 ds) S1
def iArgs (o : List D → Option Src) (ma : Ls → Sto → R (List D)) : Ls → Sto → R Src := fun L S => (ma L S).bind fun ds S1 => lift (o ds) S1
section
variable {X : Cx} {W : WX} {Rl : Hp → G → Hp → G → Prop} {P : OpP} {tg e : Expr} {m : EM}
theorem si_val (M : Md (kx X) Rl P) (h : PE X e (tQ (kx X) W P m)) : PI X tg e (tI (kx X) Rl W (iVal m)) :=
  PI.imp (Rf.PI.or (pi_list h) (Rf.PI.or (pi_tup h) (pi_str h))) fun σ H Q ⟨L, S, g, l, w, p⟩ => by
    unfold iVal at p
    cases q : m L S with
    | no => rw [q] at p; exact p.elim
    | ex x S' => rw [q] at p; exact .inl ⟨L, S, g, l, w, by rw [q]; exact p⟩
    | ok d S1 =>
      rw [q] at p
      have p0 : Post (kx X) (fun H' g' (s : Src) (J : It) => Yields (kx X) Rl J H' g' s.1 s.2) H g (fun c d => W c d σ) (lift (srcOf S1 d) S1) Q := p
      cases z : srcOf S1 d with
      | none => rw [z] at p0; exact p0.elim
      | some src =>
        rw [z] at p0
        have p1 : ∀ J H1 g1, Ext H g H1 g1 → WF (kx X) H1 g1 S1 → Yields (kx X) Rl J H1 g1 src.1 src.2 → Q J H1 := fun J H1 g1 e2 w1 y => p0 J H1 g1 e2 w1 y
        cases d with
        | lst ds =>
          cases z
          refine .inl ⟨L, S, g, l, w, ?_⟩
          rw [q]
          intro v H1 g1 e1 w1 r1
          obtain ⟨a, vs, rfl, h0, h1, h2⟩ := M.md (l.ext e1) r1
          exact ⟨a, rfl, ⟨vs, SqL.of h0⟩, p1 _ _ g1 e1 w1 (yl_list M.r1 h1 h2)⟩
        | tup ds =>
          cases z
          refine .inr (.inl ⟨L, S, g, l, w, ?_⟩)
          rw [q]
          intro v H1 g1 e1 w1 r1
          obtain ⟨a, vs, rfl, h1, h2⟩ := M.md (l.ext e1) r1
          exact ⟨a, rfl, ⟨vs, h1.sq⟩, p1 _ _ g1 e1 w1 (yl_tup M.r1 h1 h2)⟩
        | str x =>
          cases z
          refine .inr (.inr ⟨L, S, g, l, w, ?_⟩)
          rw [q]
          intro v H1 g1 e1 w1 r1
          cases (show v = .str ⟨x.toArray⟩ from M.md (l.ext e1) r1)
          exact ⟨_, rfl, p1 _ _ g1 e1 w1 yl_str⟩
        | scr ns =>
          cases z
          refine .inl ⟨L, S, g, l, w, ?_⟩
          rw [q]
          intro v H1 g1 e1 w1 r1
          obtain ⟨a, rfl, h1⟩ := M.md (l.ext e1) r1
          exact ⟨a, rfl, ⟨_, h1.sq⟩, p1 _ _ g1 e1 w1 (yl_scr M.r1 h1)⟩
        | obj n =>
          refine .inl ⟨L, S, g, l, w, ?_⟩
          rw [q]
          intro v H1 g1 e1 w1 r1
          obtain ⟨hn, rfl⟩ := M.md (l.ext e1) r1
          simp only [srcOf] at z
          split at z
          · rename_i ds hd
            cases z
            obtain ⟨vs, h1, h2⟩ := w1.ob n _ hd
            exact ⟨_, rfl, ⟨vs, SqL.of h1⟩, p1 _ _ g1 e1 w1 (yl_obj M.r1 hn)⟩
          · cases z
        | _ => cases z
variable {a b : Expr} {ma : Ls → Sto → R (List D)} {p pos : Pos}
theorem arg1 {ds : List D} {d : D} {σ : L2.St} {L : Ls} {H : Hp} {g : G} {vs : List V} (h : PL P σ L H g [d] vs) : ∃ v, vs = [v] ∧ P σ L H g d v := by
  obtain ⟨v, r, h1, h2, h3⟩ := h
  cases (show r = [] from h3)
  exact ⟨v, h1, h2⟩
theorem pk_int {k : Kx} {σ : L2.St} {L : Ls} {H : Hp} {g : G} {i : Int} {v : V} (h : PkRep k σ L H g (.int i) v) : v = .int i := by
  rcases h with h | ⟨_, _, _, h, _⟩
  · exact h
  · cases h
/-- one more step: from the arguments' items -/
theorem it_fin {k : Kx} {o : List D → Option Src} {σ : L2.St} {H : Hp} {Q : It → Hp → Prop} {R : List V → Hp → Prop} (h : tI k Rl W (iArgs o ma) σ H Q)
    (f : ∀ L ds S1 vs H1 g1 src, LocRel k σ L H1 g1 → WF k H1 g1 S1 → PL P σ L H1 g1 ds vs → o ds = some src → (∀ J, Yields k Rl J H1 g1 src.1 src.2 → Q J H1) → R vs H1) : tQA k W P ma σ H R := by
  obtain ⟨L, S, g, l, w, p⟩ := h
  refine ⟨L, S, g, l, w, Post.bind p fun ds S1 vs H1 g1 e1 w1 r1 p1 => ?_⟩
  cases q : o ds with
  | none => rw [q] at p1; exact p1.elim
  | some src =>
    rw [q] at p1
    exact f L ds S1 vs H1 g1 src (l.ext e1) w1 r1 q fun J y => Post.ret p1 w1 y
theorem si_rng1 (M : Md (kx X) Rl P) (hg : Gl X "range") (hm : X.mg "range" = none) (ha : PA X [a] (tQA (kx X) W P ma)) (hs : noStar a = true) : PI X tg (.Call (.Name "range" p) [a] [] pos) (tI (kx X) Rl W (iArgs rng1 ma)) :=
  PI.imp (pi_range1 hg hm ha (star_cons hs)) fun σ H Q h => it_fin h fun L ds S1 vs H1 g1 src l w r q y => by
    unfold rng1 at q
    split at q
    · split at q
      · rename_i j hz
        cases q
        obtain ⟨v, rfl, hv⟩ := arg1 (ds := []) r
        cases pk_int (M.pk hv)
        exact ⟨j, rfl, hz.1, hz.2, y _ yl_rng⟩
      · cases q
    · cases q
variable {elts : List Expr} {kk : Nat} {tpos : Pos}
end
theorem pl_pkl {k : Kx} {σ : L2.St} {L : Ls} {H : Hp} {g : G} : ∀ {ds : List D} {vs : List V}, PkL k σ L H g ds vs → PL (PPk k) σ L H g ds vs
  | [], _, h => h
  | _ :: _, _, ⟨v, r, h1, h2, h3⟩ => ⟨v, r, h1, h2, pl_pkl h3⟩
theorem pl_rep {k : Kx} {σ : L2.St} {L : Ls} {H : Hp} {g : G} : ∀ {ds : List D} {vs : List V}, RepL k H g ds vs → PL (PRep k) σ L H g ds vs
  | [], _, h => h
  | _ :: _, _, ⟨v, r, h1, h2, h3⟩ => ⟨v, r, h1, h2, pl_rep h3⟩
theorem Post.imp {α β : Type} {k : Kx} {P P' : Hp → G → α → β → Prop} {H : Hp} {g : G} {W : Value → Option Addr → Hp → Prop} {r : R α} {Q : β → Hp → Prop} (h : Post k P H g W r Q) (i : ∀ H' g' a b, P' H' g' a b → P H' g' a b) : Post k P' H g W r Q := by
  cases r with
  | ok a S => exact fun b H' g' e w p => h b H' g' e w (i _ _ _ _ p)
  | ex x S => exact h
  | no => exact h
theorem SA.q {X : Cx} {W : WX} {es : List Expr} {m : Ls → Sto → R (List D)} (h : SA X W es m) : PA X es (tQA (kx X) W (PPk (kx X)) m) := PA.imp h fun σ H Q ⟨L, S, g, l, w, p⟩ => ⟨L, S, g, l, w, Post.imp p fun _ _ _ _ z => pl_pkl z⟩
theorem SAE.q {X : Cx} {W : WX} {es : List Expr} {m : Ls → Sto → R (List D)} (h : SAE X W es m) : PA X es (tQA (kx X) W (PRep (kx X)) m) := PA.imp h fun σ H Q ⟨L, S, g, l, w, p⟩ => ⟨L, S, g, l, w, Post.imp p fun _ _ _ _ z => pl_rep z⟩
end Rf
set_option Elab.async false
set_option linter.all false
set_option maxRecDepth 100000
namespace Rf
open PySem L2 TL
inductive Tg where
  | nm (i : Nat) | tup (ts : List Tg)
mutual
def tgA : Tg → D → Ls → Option Ls
  | .nm i, d, L => some (L.set i (.v d))
  | .tup ts, .tup ds, L => tgAs ts ds L
  | .tup ts, .lst ds, L => tgAs ts ds L
  | .tup _, _, _ => none
def tgAs : List Tg → List D → Ls → Option Ls
  | [], [], L => some L
  | t :: ts, d :: ds, L => match tgA t d L with
    | some L1 => tgAs ts ds L1
    | none => none
  | _, _, _ => none
end
mutual
def Tg.slots : Tg → List Nat
  | .nm i => [i]
  | .tup ts => Tg.slotsL ts
def Tg.slotsL : List Tg → List Nat
  | [] => []
  | t :: ts => t.slots ++ Tg.slotsL ts
end
/-- what a store of ours leaves -/
def Frm (ss : List Nat) (σ σ' : L2.St) : Prop := σ'.length = σ.length ∧ ∀ j, j ∉ ss → σ'[j]? = σ[j]?
theorem Frm.trans {ss ts : List Nat} {a b c : L2.St} (h : Frm ss a b) (h' : Frm ts b c) : Frm (ss ++ ts) a c :=
  ⟨h'.1.trans h.1, fun j hj => (h'.2 j fun z => hj (List.mem_append_right _ z)).trans (h.2 j fun z => hj (List.mem_append_left _ z))⟩
theorem LocRel.set {k : Kx} {σ : L2.St} {L : Ls} {H : Hp} {g : G} {i : Nat} {d : D} {v : V} (l : LocRel k σ L H g) (r : Rep k H g d v) : LocRel k (σ.set i (some v)) (L.set i (.v d)) H g where
  len := by rw [List.length_set, List.length_set, l.len]
  val := fun j e h => by
    by_cases hj : i = j
    · subst hj
      by_cases hl : i < L.length
      · rw [List.getElem?_set_self hl] at h
        cases h
        exact ⟨v, by rw [List.getElem?_set_self (by rw [l.len]; exact hl)], r⟩
      · rw [List.getElem?_eq_none (by rw [List.length_set]; omega)] at h
        cases h
    · rw [List.getElem?_set_ne hj] at h
      obtain ⟨u, h1, h2⟩ := l.val j e h
      exact ⟨u, by rw [List.getElem?_set_ne hj]; exact h1, h2⟩
  own := fun j o h => by
    by_cases hj : i = j
    · subst hj
      by_cases hl : i < L.length
      · rw [List.getElem?_set_self hl] at h
        cases h
      · rw [List.getElem?_eq_none (by rw [List.length_set]; omega)] at h
        cases h
    · rw [List.getElem?_set_ne hj] at h
      obtain ⟨u, h1, h2⟩ := l.own j o h
      exact ⟨u, by rw [List.getElem?_set_ne hj]; exact h1, h2⟩
  sep := fun a b o u p ha hb pa pb => by
    have key : ∀ {a : Nat} {o : O}, (L.set i (.v d))[a]? = some (.o o) → i ≠ a := fun {a o} h z => by
      subst z
      by_cases hl : i < L.length
      · rw [List.getElem?_set_self hl] at h; cases h
      · rw [List.getElem?_eq_none (by rw [List.length_set]; omega)] at h; cases h
    have ia := key ha
    have ib := key hb
    rw [List.getElem?_set_ne ia] at ha pa
    rw [List.getElem?_set_ne ib] at hb pb
    exact l.sep a b o u p ha hb pa pb
  exc := l.exc.set nofun
theorem LocRel.unset {k : Kx} {σ : L2.St} {L : Ls} {H : Hp} {g : G} {i : Nat} (l : LocRel k σ L H g) : LocRel k (σ.set i none) (L.set i .un) H g where
  len := by rw [List.length_set, List.length_set, l.len]
  val := fun j e h => by
    by_cases hj : i = j
    · subst hj
      by_cases hl : i < L.length
      · rw [List.getElem?_set_self hl] at h
        cases h
      · rw [List.getElem?_eq_none (by rw [List.length_set]; omega)] at h
        cases h
    · rw [List.getElem?_set_ne hj] at h
      obtain ⟨u, h1, h2⟩ := l.val j e h
      exact ⟨u, by rw [List.getElem?_set_ne hj]; exact h1, h2⟩
  own := fun j o h => by
    by_cases hj : i = j
    · subst hj
      by_cases hl : i < L.length
      · rw [List.getElem?_set_self hl] at h
        cases h
      · rw [List.getElem?_eq_none (by rw [List.length_set]; omega)] at h
        cases h
    · rw [List.getElem?_set_ne hj] at h
      obtain ⟨u, h1, h2⟩ := l.own j o h
      exact ⟨u, by rw [List.getElem?_set_ne hj]; exact h1, h2⟩
  sep := fun a b o u p ha hb pa pb => by
    have key : ∀ {a : Nat} {o : O}, (L.set i .un)[a]? = some (.o o) → i ≠ a := fun {a o} h z => by
      subst z
      by_cases hl : i < L.length
      · rw [List.getElem?_set_self hl] at h; cases h
      · rw [List.getElem?_eq_none (by rw [List.length_set]; omega)] at h; cases h
    have ia := key ha
    have ib := key hb
    rw [List.getElem?_set_ne ia] at ha pa
    rw [List.getElem?_set_ne ib] at hb pb
    exact l.sep a b o u p ha hb pa pb
  exc := l.exc.set nofun
def wipeL (L : Ls) : List Nat → Ls
  | [] => L
  | v :: vs => (wipeL L vs).set v .un
theorem LocRel.wipe {k : Kx} {σ : L2.St} {L : Ls} {H : Hp} {g : G} (l : LocRel k σ L H g) : ∀ vs, LocRel k (L2.wipe σ vs) (wipeL L vs) H g
  | [] => l
  | _ :: vs => (LocRel.wipe l vs).unset
def tGt (k : Kx) (t : Tg) : TG := fun v σ H Q => ∃ d L S g L', Rep k H g d v ∧ LocRel k σ L H g ∧ WF k H g S ∧ tgA t d L = some L' ∧ ∀ σ', LocRel k σ' L' H g → Frm t.slots σ σ' → Q σ' H
def tGs (k : Kx) (ts : List Tg) : TGs := fun vs σ H Q => ∃ ds L S g L', RepL k H g ds vs ∧ LocRel k σ L H g ∧ WF k H g S ∧ tgAs ts ds L = some L' ∧ ∀ σ', LocRel k σ' L' H g → Frm (Tg.slotsL ts) σ σ' → Q σ' H
theorem PG.imp {X : Cx} {tg : Expr} {t t' : TG} (h : PG X tg t) (i : ∀ v σ H Q, t' v σ H Q → t v σ H Q) : PG X tg t' := ⟨fun pins s σ H v u Q I r q => h.run pins s σ H v u Q I r (i v σ H Q q)⟩
theorem PGs.imp {X : Cx} {tg : List Expr} {t t' : TGs} (h : PGs X tg t) (i : ∀ v σ H Q, t' v σ H Q → t v σ H Q) : PGs X tg t' := ⟨fun pins s σ H v u Q I r q => h.run pins s σ H v u Q I r (i v σ H Q q)⟩
theorem PG.or {X : Cx} {tg : Expr} {t t' : TG} (h : PG X tg t) (h' : PG X tg t') : PG X tg (fun v σ H Q => t v σ H Q ∨ t' v σ H Q) := ⟨fun pins s σ H v u Q I r q => q.elim (h.run pins s σ H v u Q I r) (h'.run pins s σ H v u Q I r)⟩
theorem as_each {X : Cx} : ∀ {es : List Expr}, es.all noStar = true → (assignEach es X.env).map (·.2) = es.map (fun e => assign e X.env) ∧ (assignEach es X.env).length = es.length ∧ (assignEach es X.env).findIdx? (·.1) = none
  | [], _ => ⟨rfl, rfl, rfl⟩
  | e :: es, h => by
    rw [List.all_cons, Bool.and_eq_true] at h
    obtain ⟨h1, h2, h3⟩ := as_each (X := X) h.2
    have e1 : assignEach (e :: es) X.env = (false, assign e X.env) :: assignEach es X.env := by
      cases e <;> first | rfl | (exact absurd h.1 Bool.false_ne_true)
    rw [e1]
    refine ⟨by rw [List.map_cons, h1] <;> rfl, by rw [List.length_cons, h2] <;> rfl, ?_⟩
    rw [List.findIdx?_cons]
    simp only [Bool.false_eq_true, if_false, h3]
    rfl
section
variable {X : Cx} {pos : Pos} {i kk : Nat} {x : Str} {e : Expr} {es : List Expr} {t : Tg} {ts : List Tg}
theorem sg_name (h : PG X (.Name x pos) (gName i)) : PG X (.Name x pos) (tGt (kx X) (.nm i)) := PG.imp h fun v σ H Q ⟨d, L, S, g, L', r, l, w, e, q⟩ => by
  cases e
  exact q _ (l.set r) ⟨List.length_set .., fun j hj => List.getElem?_set_ne (fun z => hj (by simp [Tg.slots, z]))⟩
theorem sgs_nil : PGs X [] (tGs (kx X) []) := PGs.imp pgs_nil fun vs σ H Q ⟨ds, L, S, g, L', r, l, w, e, q⟩ => by
  cases ds with
  | nil => cases e; exact ⟨r, q σ l ⟨rfl, fun _ _ => rfl⟩⟩
  | cons d ds => cases e
theorem sgs_cons (h1 : PG X e (tGt (kx X) t)) (h2 : PGs X es (tGs (kx X) ts)) (hs : (e :: es).all noStar = true) : PGs X (e :: es) (tGs (kx X) (t :: ts)) := by
  have a := as_each (X := X) hs
  have hs' : noStar e = true ∧ es.all noStar = true := by rwa [List.all_cons, Bool.and_eq_true] at hs
  have b := as_each (X := X) hs'.2
  refine PGs.imp (pgs_cons h1 h2 (by rw [a.1, b.1] <;> rfl)) fun vs σ H Q ⟨ds, L, S, g, L', r, l, w, e, q⟩ => ?_
  cases ds with
  | nil => cases e
  | cons d ds =>
    obtain ⟨v, u, rfl, r1, r2⟩ := r
    simp only [tgAs] at e
    split at e
    · rename_i L1 e1
      exact ⟨v, u, rfl, d, L, S, g, L1, r1, l, w, e1, fun σ' l' f => ⟨ds, L1, S, g, L', r2, l', w, e, fun σ'' l'' f' => q σ'' l'' (f.trans f')⟩⟩
    · cases e
theorem sg_tup (hc : X.calm = true) (h : PGs X es (tGs (kx X) ts)) (hs : es.all noStar = true) (hl : es.length = ts.length) : PG X (.Tuple es kk pos) (tGt (kx X) (.tup ts)) := by
  have a := as_each (X := X) hs
  refine PG.imp (Rf.PG.or (pg_tup (n := ts.length) hc h (a.2.1.trans hl) a.2.2) (pg_lst (n := ts.length) hc h (a.2.1.trans hl) a.2.2)) fun v σ H Q ⟨d, L, S, g, L', r, l, w, e, q⟩ => ?_
  have len : ∀ {ts : List Tg} {ds : List D} {L L' : Ls}, tgAs ts ds L = some L' → ds.length = ts.length := by
    intro ts
    induction ts with
    | nil => intro ds L L' h; cases ds with
      | nil => rfl
      | cons d ds => cases h
    | cons t ts ih => intro ds L L' h; cases ds with
      | nil => cases h
      | cons d ds =>
        simp only [tgAs] at h
        split at h
        · rw [List.length_cons, List.length_cons, ih h]
        · cases h
  cases d with
  | tup ds =>
    obtain ⟨p, vs, rfl, hp, rr⟩ := r
    have e' : tgAs ts ds L = some L' := e
    exact .inl ⟨p, vs, rfl, hp.sq, by rw [rr.length, len e'], ds, L, S, g, L', rr, l, w, e', q⟩
  | lst ds =>
    obtain ⟨p, vs, rfl, _, hp, rr⟩ := r
    have e' : tgAs ts ds L = some L' := e
    exact .inr ⟨p, vs, rfl, SqL.of hp, by rw [rr.length, len e'], ds, L, S, g, L', rr, l, w, e', q⟩
  | _ => cases e
end
@[reducible] def R.nox {α : Type} (r : R α) : R α := match r with
  | .ok a S => .ok a S
  | _ => .no
open Classical in
/-- go on only if the store's list is as it was -/
noncomputable def ckd {α : Type} (S : Sto) (all : List D) (dep : Dep) (r : R α) : R α := match dep with
  | none => r
  | some l => if DepC S l then r else .no
noncomputable def lcLoop (dep : Dep) (all : List D) (t : Tg) (tt : Ls → Sto → R Bool) (te : EM) (Lw : Ls) : List D → Sto → List D → R (List D)
  | [], S, acc => ckd S all dep (.ok acc S)
  | d :: ds, S, acc => ckd S all dep (match tgA t d Lw with
    | none => .no
    | some L1 => (tt L1 S).nox.bind fun b S1 => if b = true then (te L1 S1).nox.bind fun y S2 => if acc.length < sizeLine then lcLoop dep all t tt te Lw ds S2 (acc ++ [y]) else .no
      else lcLoop dep all t tt te Lw ds S1 acc)
noncomputable def fLc (mi : Ls → Sto → R Src) (own : List Nat) (t : Tg) (tt : Ls → Sto → R Bool) (te : EM) : Ls → Sto → R (List D) := fun L S =>
  (mi L S).bind fun src S1 => lcLoop src.2 src.1 t tt te (wipeL L own) src.1 S1 []
def tYs : Ls → Sto → R Bool := fun _ S => .ok true S
theorem ckd_ok {α β : Type} {k : Kx} {P : Hp → G → α → β → Prop} {H : Hp} {g : G} {W : Value → Option Addr → Hp → Prop} {S : Sto} {all : List D} {dep : Dep} {r : R α} {Q : β → Hp → Prop}
    (h : Post k P H g W (ckd S all dep r) Q) : DepOk S all dep ∧ Post k P H g W r Q := by
  cases dep with
  | none => exact ⟨trivial, h⟩
  | some n =>
    unfold ckd at h
    dsimp only at h
    by_cases z : DepC S n
    · rw [if_pos z] at h; exact ⟨z, h⟩
    · rw [if_neg z] at h; exact h.elim
section
variable {α β α' β' : Type} {k : Kx} {P : Hp → G → α → β → Prop} {P' : Hp → G → α' → β' → Prop} {B H H' : Hp} {gB g g' : G} {W W' : Value → Option Addr → Hp → Prop} {r : R α} {f : α → Sto → R α'} {Q : β → Hp → Prop} {Q' : β' → Hp → Prop}
theorem Post.bindN (h : Post k P' B gB W (r.nox.bind f) Q') (hk : ∀ a S b H' g', Ext H g H' g' → WF k H' g' S → P H' g' a b → Post k P' B gB W (f a S) Q' → Q b H') : Post k P H g W' r Q := by
  cases r with
  | ok a S => exact fun b H2 g2 e w p => hk a S b H2 g2 e w p h
  | ex x S => exact h.elim
  | no => exact h.elim
end
section
variable {k : Kx} {H B : Hp} {g gB : G} {S : Sto} {a : Addr} {ds es : List D} {us vs : List V}
theorem own_pext (h : OwnAt k H g a (.lst ds)) : PExt H g (upd H a (.lst vs)) g := by
  obtain ⟨⟨us, e, r⟩, nf, nr⟩ := h
  refine ⟨fun _ f => f, fun b o f q => ?_, fun b xs q => ?_, fun b o u q => ?_, Nat.le_refl _, fun _ _ => rfl⟩
  · rw [upd_ne (fun z => nf (by rw [← z]; exact f))]; exact q
  · rw [upd_ne (fun z => by rw [z, e] at q; cases q)]; exact q
  · rw [upd_ne (fun z => by rw [z, e] at q; cases q)]; exact q
theorem own_wf (h : OwnAt k H g a (.lst ds)) (w : WF k H g S) : WF k (upd H a (.lst vs)) g S where
  len := w.len
  ob := fun i o e => (w.ob i o e).mono (own_pext h) fun u q => by
    rw [upd_ne (fun z => h.2.2 i (by rw [← w.len]; exact (List.getElem?_eq_some_iff.mp e).1) z)]; exact q
  inj := w.inj
  nF := w.nF
  tF := fun b f => by
    obtain ⟨o, q⟩ := w.tF b f
    exact ⟨o, by rw [upd_ne (fun z => h.2.1 (by rw [← z]; exact f))]; exact q⟩
theorem own_own (h : OwnAt k H g a (.lst ds)) (r : RepL k H g es vs) : OwnAt k (upd H a (.lst vs)) g a (.lst es) := ⟨⟨vs, upd_same, r.mono (own_pext h) _ _⟩, h.2⟩
theorem own_ext (h : OwnAt k H g a (.lst ds)) (e : Ext B gB H g) (hB : B a = none) : Ext B gB (upd H a (.lst vs)) g where
  toPExt := ⟨e.F, fun b o f q => by rw [upd_ne (ne_of_none q hB)]; exact e.kF b o f q, fun b xs q => by rw [upd_ne (ne_of_none q hB)]; exact e.kT b xs q, fun b o u q => by rw [upd_ne (ne_of_none q hB)]; exact e.kZ b o u q, e.n, e.ρ⟩
  keep := fun b o q n => by rw [upd_ne (ne_of_none q hB)]; exact e.keep b o q n
  newF := e.newF
  newρ := e.newρ
  tr := fun b o q => by
    obtain ⟨u, z⟩ := e.tr b o q
    exact ⟨u, by rw [upd_ne (ne_of_none q hB)]; exact z⟩
end
theorem wipe_in {σ : L2.St} : ∀ {vs : List Nat} {j : Nat}, j ∈ vs → (wipe σ vs)[j]? = if j < σ.length then some none else none
  | v :: vs, j, h => by
    unfold wipe
    by_cases hj : v = j
    · subst hj
      by_cases hl : v < σ.length
      · rw [List.getElem?_set_self (by rw [wipe_length]; exact hl), if_pos hl]
      · rw [List.getElem?_eq_none (by rw [List.length_set, wipe_length]; omega), if_neg hl]
    · rw [List.getElem?_set_ne hj]
      rcases List.mem_cons.mp h with z | z
      · exact absurd z.symm hj
      · exact wipe_in z
theorem wipe_out' {σ : L2.St} : ∀ {vs : List Nat} {j : Nat}, j ∉ vs → (wipe σ vs)[j]? = σ[j]?
  | [], _, _ => rfl
  | v :: vs, j, h => by
    unfold wipe
    rw [List.getElem?_set_ne (fun z => h (by simp [z]))]
    exact wipe_out' fun z => h (List.mem_cons_of_mem _ z)
theorem wipe_frm {σ σ2 : L2.St} {vs ss : List Nat} (f : Frm ss (wipe σ vs) σ2) (hs : ∀ i ∈ ss, i ∈ vs) : wipe σ2 vs = wipe σ vs := by
  apply List.ext_getElem?
  intro j
  by_cases hj : j ∈ vs
  · rw [wipe_in hj, wipe_in hj, f.1, wipe_length]
  · rw [wipe_out' hj, f.2 j fun z => hj (hs j z)]
abbrev WN : WX := fun _ _ _ _ => False
theorem PTs.imp {X : Cx} {ifs : List Expr} {t t' : TT} (h : PTs X ifs t) (i : ∀ σ H Q, t' σ H Q → t σ H Q) : PTs X ifs t' := ⟨fun pins s σ H Q I q => h.run pins s σ H Q I (i σ H Q q)⟩
section
variable {X : Cx} {W : WX} {elt tg iter c : Expr} {ifs : List Expr} {scope : Scope} {own : List (Str × Nat)} {pos : Pos} {mi : Ls → Sto → R Src} {t : Tg} {tt : Ls → Sto → R Bool} {te : EM}
theorem sts_nil : PTs X [] (tT (kx X) W tYs) := PTs.imp pts_nil fun σ H Q ⟨L, S, g, l, w, p⟩ => Post.ret p w rfl
/-- the readings: from ours to the layer's -/
theorem lc_read {vs : List Nat} (hs : ∀ i ∈ t.slots, i ∈ vs) {k : Kx} {σ : L2.St} {H : Hp} {Q : VK} (h : tF k W (fLc mi vs t tt te) σ H Q) :
    tLc (tI k Ext W mi) (tGt k t) (tT k WN tt) (tE k WN te) vs σ H Q := by
  obtain ⟨L, S, g, l, w, p⟩ := h
  refine ⟨L, S, g, l, w, Post.bind p fun src S1 J H1 g1 e1 w1 y p1 => fun D hD => ?_⟩
  obtain ⟨all, dep⟩ := src
  have hD0 : H D = none := fresh_of e1 hD
  have l1 := (l.ext e1).wipe vs
  refine ⟨fun i m Hc => ∃ Sc gc acc, m = all.length - i ∧ i ≤ all.length ∧ Ext H1 g1 Hc gc ∧ WF k Hc gc Sc ∧ OwnAt k Hc gc D (.lst acc) ∧
    Post k (FRep k H) H1 g1 (fun c d => W c d σ) (lcLoop dep all t tt te (wipeL L vs) (all.drop i) Sc acc) Q,
    ⟨all.length, S1, g1, [], by omega, Nat.zero_le _, Ext.new hD, w1.new hD, own_new w1 rfl hD, by rw [List.drop_zero]; exact p1⟩, ?_⟩
  rintro i m Hc ⟨Sc, gc, acc, rfl, hi, ec, wc, oc, pc⟩
  by_cases hlt : i < all.length
  · rw [List.drop_eq_getElem_cons hlt] at pc
    obtain ⟨dok, pc⟩ := ckd_ok pc
    obtain ⟨go, yl⟩ := (y Hc gc Sc i ec wc dok).2 all[i] (List.getElem?_eq_getElem hlt)
    refine .inr ⟨go, fun H' => ∃ m', m' < all.length - i ∧ ∃ Sc gc acc, m' = all.length - (i + 1) ∧ i + 1 ≤ all.length ∧ Ext H1 g1 H' gc ∧ WF k H' gc Sc ∧ OwnAt k H' gc D (.lst acc) ∧
      Post k (FRep k H) H1 g1 (fun c d => W c d σ) (lcLoop dep all t tt te (wipeL L vs) (all.drop (i + 1)) Sc acc) Q, fun H' h => h, fun x H3 hy => ?_⟩
    obtain ⟨e3, w3, r3⟩ := yl x H3 hy
    have ec3 := ec.trans e3
    cases q : tgA t all[i] (wipeL L vs) with
    | none => rw [q] at pc; exact pc.elim
    | some L1 =>
      rw [q] at pc
      refine ⟨all[i], wipeL L vs, Sc, gc, L1, r3, l1.ext ec3, w3, q, fun σ2 l2 f2 => ⟨wipe_frm f2 hs, L1, Sc, gc, l2, w3, Post.bindN pc fun b S4 b' H4 g4 e4 w4 rb p4 => ?_⟩⟩
      cases rb
      have ec4 := ec3.trans e4
      have o4 := (oc.ext e3).ext e4
      by_cases hb : b = true
      · rw [if_pos hb] at p4 ⊢
        refine ⟨L1, S4, g4, l2.ext e4, w4, Post.bindN p4 fun d S5 v H5 g5 e5 w5 r5 p5 => ?_⟩
        have o5 := o4.ext e5
        have ec5 := ec4.trans e5
        obtain ⟨accV, hacc, racc⟩ := id o5.1
        by_cases hz : acc.length < sizeLine
        · rw [if_pos hz] at p5
          have racc' := racc.append (RepL.cons r5 .nil)
          exact ⟨accV, hacc, by rw [racc.length]; exact hz, _, by omega, S5, g5, acc ++ [d], rfl, hlt, own_ext o5 ec5 hD, own_wf o5 w5, own_own o5 racc', p5⟩
        · rw [if_neg hz] at p5
          exact p5.elim
      · rw [if_neg hb] at p4 ⊢
        exact ⟨_, by omega, S4, g4, acc, rfl, hlt, ec4, w4, o4, p4⟩
  · have ei : all.length = i := by omega
    rw [List.drop_eq_nil_of_le (by omega)] at pc
    obtain ⟨dok, pc⟩ := ckd_ok pc
    exact .inl ⟨(y Hc gc Sc i ec wc dok).1 ei, pc _ Hc gc ec wc ⟨D, rfl, hD0, oc⟩⟩
theorem no_fold {e : Expr} {env : Env} (h : notMark e = true) (x : Value) : foldedSetIterable e env x = pure x := by
  cases e <;> first | rfl | cases h
theorem blk_e {X : Cx} {W : WX} {e : Expr} {m : EM} {s : Shared} {H : Hp} {scope : Scope} {cenv : Env} {fp : List Addr} (hc : X.calm = true) (h : SE (X.blk s H scope cenv fp) W e m) : PE (X.blk s H scope cenv fp) e (tE (kx X) W m) := by
  have e1 : kx (X.blk s H scope cenv fp) = kx X := by rw [kx_calm hc, kx_calm (X := X.blk s H scope cenv fp) hc]
  rw [← e1]
  exact h
theorem sf_lc (hc : X.calm = true) (hN : X.N.Nodup) (hi : PI X tg iter (tI (kx X) Ext W mi)) (ok : BlkOk X.N X.env.scope scope own)
    (hg : ∀ (s : Shared) (H : Hp) (C : Addr) (cl : List (Str × Addr)) (fp : List Addr), PG (X.blk s H scope (compEnvC scope cl C X.env) fp) tg (tGt (kx X) t))
    (ht : ∀ (s : Shared) (H : Hp) (C : Addr) (cl : List (Str × Addr)) (fp : List Addr), PTs (X.blk s H scope (compEnvC scope cl C X.env) fp) ifs (tT (kx X) WN tt))
    (he : ∀ (s : Shared) (H : Hp) (C : Addr) (cl : List (Str × Addr)) (fp : List Addr), SE (X.blk s H scope (compEnvC scope cl C X.env) fp) WN elt te)
    (hs : ∀ i ∈ t.slots, i ∈ own.map (·.2)) (hm : notMark iter = true) : SF X W (.ListComp elt [⟨tg, iter, ifs, 0⟩] scope pos) (fLc mi (own.map (·.2)) t tt te) :=
  PE.imp (pe_lc hc hN hi ok hg ht (fun s H C cl fp => blk_e hc (he s H C cl fp)) (no_fold hm)) fun σ H Q q => lc_read hs q
end
end Rf
set_option Elab.async false
set_option linter.all false
set_option maxRecDepth 100000
namespace Rf
open PySem L2 TL
inductive Fl where
  | nx | rt (d : D) | bk | ct
inductive RS where
  | ok (f : Fl) (L : Ls) (S : Sto) | ex (x : Exn) (L : Ls) (S : Sto) | no
abbrev SM := Ls → Sto → RS
@[reducible] def R.st {α : Type} (r : R α) (L : Ls) (f : α → Sto → RS) : RS := match r with
  | .ok a S => f a S
  | .ex x S => .ex x L S
  | .no => .no
@[reducible] def RS.seq (r : RS) (f : Ls → Sto → RS) : RS := match r with
  | .ok .nx L S => f L S
  | r => r
/-- the state of a frame whose call began at B -/
structure Fr (k : Kx) (B : Hp) (gB : G) (σ : L2.St) (L : Ls) (H : Hp) (g : G) (S : Sto) : Prop where
  loc : LocRel k σ L H g
  wf : WF k H g S
  base : Ext B gB H g
  new : ∀ (i : Nat) (o : O) (a : Addr), L[i]? = some (.o o) → σ[i]? = some (some (.ref a)) → B a = none
def EndsAt (k : Kx) (D : Ends) (f : Fl) (σ : L2.St) (H : Hp) (g : G) : Prop := match f with
  | .nx => D.nx σ H
  | .bk => D.bk σ H
  | .ct => D.ct σ H
  | .rt d => ∀ v, Rep k H g d v → D.rt v H
def SPost (k : Kx) (B : Hp) (gB : G) (W : WX) (H : Hp) (g : G) (r : RS) (D : Ends) : Prop := match r with
  | .ok f L S => ∀ σ' H' g', Fr k B gB σ' L H' g' S → PExt H g H' g' → EndsAt k D f σ' H' g'
  | .ex x L S => ∀ c d σ' H' g', Fr k B gB σ' L H' g' S → PExt H g H' g' → XRep k H' g' x c d → W c d σ' H'
  | .no => False
def tS (k : Kx) (W : WX) (m : SM) : TS := fun D σ H => ∃ L S g B gB, Fr k B gB σ L H g S ∧ SPost k B gB W H g (m L S) D
theorem PS.imp {X : Cx} {st : Stmt} {t t' : TS} (h : PS X st t) (i : ∀ D σ H, t' D σ H → t D σ H) : PS X st t' := ⟨fun pins s σ H D I q => h.run pins s σ H D I (i D σ H q)⟩
theorem PSs.imp {X : Cx} {st : List Stmt} {t t' : TS} (h : PSs X st t) (i : ∀ D σ H, t' D σ H → t D σ H) : PSs X st t' := ⟨fun pins s σ H D I q => h.run pins s σ H D I (i D σ H q)⟩
abbrev SS (X : Cx) (W : WX) (st : Stmt) (m : SM) : Prop := PS X st (tS (kx X) W m)
abbrev SB (X : Cx) (W : WX) (st : List Stmt) (m : SM) : Prop := PSs X st (tS (kx X) W m)
section
variable {α β : Type} {k : Kx} {B : Hp} {gB : G} {W : WX} {σ : L2.St} {L : Ls} {H H' H1 : Hp} {g g' g1 : G} {S S1 : Sto} {r : RS} {E : Ends}
theorem SPost.from (h : SPost k B gB W H g r E) (e : PExt H g H' g') : SPost k B gB W H' g' r E := by
  cases r with
  | ok f L S => exact fun σ2 H2 g2 fr e2 => h σ2 H2 g2 fr (e.trans e2)
  | ex x L S => exact fun c d σ2 H2 g2 fr e2 => h c d σ2 H2 g2 fr (e.trans e2)
  | no => exact h
theorem Fr.ext (f : Fr k B gB σ L H g S) (e : Ext H g H1 g1) (w : WF k H1 g1 S1) : Fr k B gB σ L H1 g1 S1 := ⟨f.loc.ext e, w, f.base.trans e, f.new⟩
theorem st_e {P : Hp → G → α → β → Prop} {x : R α} {f : α → Sto → RS} {Q : β → Hp → Prop} (fr : Fr k B gB σ L H g S) (p : SPost k B gB W H g (R.st x L f) E)
    (hk : ∀ a S1 b H1 g1, Fr k B gB σ L H1 g1 S1 → Ext H g H1 g1 → P H1 g1 a b → SPost k B gB W H1 g1 (f a S1) E → Q b H1) : Post k P H g (fun c d => W c d σ) x Q := by
  cases x with
  | ok a S1 => exact fun b H1 g1 e w q => hk a S1 b H1 g1 (fr.ext e w) e q (SPost.from p e.toPExt)
  | ex x S1 => exact fun c d H1 g1 e w q => p c d σ H1 g1 (fr.ext e w) e.toPExt q
  | no => exact p
theorem SPost.nx (h : SPost k B gB W H g (.ok .nx L S) E) (fr : Fr k B gB σ L H g S) : E.nx σ H := h σ H g fr (PExt.refl H g)
theorem Fr.set {i : Nat} {d : D} {v : V} (f : Fr k B gB σ L H g S) (r : Rep k H g d v) : Fr k B gB (σ.set i (some v)) (L.set i (.v d)) H g S where
  loc := f.loc.set r
  wf := f.wf
  base := f.base
  new := fun j o a h h' => by
    by_cases hj : i = j
    · subst hj
      by_cases hl : i < L.length
      · rw [List.getElem?_set_self hl] at h; cases h
      · rw [List.getElem?_eq_none (by rw [List.length_set]; omega)] at h; cases h
    · rw [List.getElem?_set_ne hj] at h h'
      exact f.new j o a h h'
/-- an own object is put into a slot -/
theorem Fr.put {i : Nat} {o : O} {a : Addr} (f : Fr k B gB σ L H g S) (h : OwnAt k H g a o) (hB : B a = none) (hs : ∀ j u, j ≠ i → L[j]? = some (.o u) → σ[j]? ≠ some (some (.ref a))) : Fr k B gB (σ.set i (some (.ref a))) (L.set i (.o o)) H g S where
  loc := {
    len := by rw [List.length_set, List.length_set, f.loc.len]
    val := fun j e h => by
      by_cases hj : i = j
      · subst hj
        by_cases hl : i < L.length
        · rw [List.getElem?_set_self hl] at h; cases h
        · rw [List.getElem?_eq_none (by rw [List.length_set]; omega)] at h; cases h
      · rw [List.getElem?_set_ne hj] at h ⊢
        exact f.loc.val j e h
    own := fun j u h => by
      by_cases hj : i = j
      · subst hj
        by_cases hl : i < L.length
        · rw [List.getElem?_set_self hl] at h
          cases h
          exact ⟨a, by rw [List.getElem?_set_self (by rw [f.loc.len]; exact hl)], by assumption⟩
        · rw [List.getElem?_eq_none (by rw [List.length_set]; omega)] at h; cases h
      · rw [List.getElem?_set_ne hj] at h ⊢
        exact f.loc.own j u h
    sep := fun j l u w b hj hl pj pl => by
      by_cases ej : i = j
      · by_cases el : i = l
        · omega
        · subst ej
          by_cases hi : i < L.length
          · rw [List.getElem?_set_ne el] at hl pl
            rw [List.getElem?_set_self (by rw [f.loc.len]; exact hi)] at pj
            cases pj
            exact absurd pl (hs l w (fun z => el z.symm) hl)
          · rw [List.getElem?_eq_none (by rw [List.length_set]; omega)] at hj; cases hj
      · by_cases el : i = l
        · subst el
          by_cases hi : i < L.length
          · rw [List.getElem?_set_ne ej] at hj pj
            rw [List.getElem?_set_self (by rw [f.loc.len]; exact hi)] at pl
            cases pl
            exact absurd pj (hs j u (fun z => ej z.symm) hj)
          · rw [List.getElem?_eq_none (by rw [List.length_set]; omega)] at hl; cases hl
        · rw [List.getElem?_set_ne ej] at hj pj
          rw [List.getElem?_set_ne el] at hl pl
          exact f.loc.sep j l u w b hj hl pj pl
    exc := f.loc.exc.set nofun }
  wf := f.wf
  base := f.base
  new := fun j u b h h' => by
    by_cases hj : i = j
    · subst hj
      by_cases hl : i < L.length
      · rw [List.getElem?_set_self (by rw [f.loc.len]; exact hl)] at h'
        cases h'; exact hB
      · rw [List.getElem?_eq_none (by rw [List.length_set]; omega)] at h; cases h
    · rw [List.getElem?_set_ne hj] at h h'
      exact f.new j u b h h'
theorem Fr.fresh {H0 : Hp} {g0 : G} {S0 : Sto} {i : Nat} {ds : List D} {v : V} (f0 : Fr k B gB σ L H0 g0 S0) (f : Fr k B gB σ L H g S) (h : FRep k H0 H g ds v) : Fr k B gB (σ.set i (some v)) (L.set i (.o (.lst ds))) H g S := by
  obtain ⟨a, rfl, hn, oa⟩ := h
  refine f.put oa (fresh_of f0.base hn) fun j u _ hj hp => ?_
  obtain ⟨b, hb, ob⟩ := f0.loc.own j u hj
  rw [hp] at hb
  cases hb
  obtain ⟨w, q⟩ := ob.1.tr
  rw [hn] at q; cases q
theorem own_at {i j : Nat} {o u : O} (h : (L.set i (.o o))[j]? = some (.o u)) (hi : ∃ w, L[i]? = some (.o w)) : ∃ w, L[j]? = some (.o w) := by
  by_cases hj : i = j
  · subst hj; exact hi
  · rw [List.getElem?_set_ne hj] at h; exact ⟨u, h⟩
/-- an own list is changed -/
theorem Fr.chg {i : Nat} {ds es : List D} {a : Addr} {vs : List V} (f : Fr k B gB σ L H g S) (hi : L[i]? = some (.o (.lst ds))) (ha : σ[i]? = some (some (.ref a))) (r : RepL k H g es vs) :
    Fr k B gB σ (L.set i (.o (.lst es))) (upd H a (.lst vs)) g S ∧ PExt H g (upd H a (.lst vs)) g := by
  obtain ⟨b, hb, oa⟩ := f.loc.own i _ hi
  rw [ha] at hb
  cases hb
  have pe := own_pext (vs := vs) oa
  have hl : i < L.length := (List.getElem?_eq_some_iff.mp hi).1
  refine ⟨⟨⟨by rw [List.length_set, f.loc.len], fun j e h => ?_, fun j u h => ?_, fun j l u w b hj hl pj pl => ?_, (f.loc.exc.mono pe).setL nofun⟩, own_wf oa f.wf, own_ext oa f.base (f.new i _ a hi ha), fun j u b h h' => ?_⟩, pe⟩
  · by_cases hj : i = j
    · subst hj
      rw [List.getElem?_set_self hl] at h; cases h
    · rw [List.getElem?_set_ne hj] at h
      obtain ⟨v, q1, q2⟩ := f.loc.val j e h
      exact ⟨v, q1, q2.mono pe _ _⟩
  · by_cases hj : i = j
    · subst hj
      rw [List.getElem?_set_self hl] at h
      cases h
      exact ⟨a, ha, own_own oa r⟩
    · rw [List.getElem?_set_ne hj] at h
      obtain ⟨b, q1, q2⟩ := f.loc.own j u h
      have hb : b ≠ a := fun z => by
        subst z
        exact hj (f.loc.sep i j _ u b hi h ha q1)
      exact ⟨b, q1, q2.1.mono pe fun o q => by rw [upd_ne hb]; exact q, q2.2⟩
  · obtain ⟨u', hj⟩ := own_at hj ⟨_, hi⟩
    obtain ⟨w', hl⟩ := own_at hl ⟨_, hi⟩
    exact f.loc.sep j l u' w' b hj hl pj pl
  · obtain ⟨u', h⟩ := own_at h ⟨_, hi⟩
    exact f.new j u' b h h'
/-- an object of the store is changed -/
theorem Fr.obj {n : Nat} {ds es : List D} {vs : List V} (f : Fr k B gB σ L H g S) (hn : S[n]? = some (.lst ds)) (r : RepL k H g es vs) :
    Fr k B gB σ L (upd H (g.ρ n) (.lst vs)) g (S.set n (.lst es)) ∧ PExt H g (upd H (g.ρ n) (.lst vs)) g := by
  have hl : n < S.length := (List.getElem?_eq_some_iff.mp hn).1
  have hg : n < g.n := by rw [← f.wf.len]; exact hl
  obtain ⟨us, hu, _⟩ := f.wf.ob n _ hn
  have pe : PExt H g (upd H (g.ρ n) (.lst vs)) g := by
    refine ⟨fun _ f => f, fun b o q1 q => ?_, fun b xs q => ?_, fun b o u q => ?_, Nat.le_refl _, fun _ _ => rfl⟩
    · rw [upd_ne (fun z => f.wf.nF n hg (by rw [← z]; exact q1))]; exact q
    · rw [upd_ne (fun z => by rw [z, hu] at q; cases q)]; exact q
    · rw [upd_ne (fun z => by rw [z, hu] at q; cases q)]; exact q
  refine ⟨⟨⟨f.loc.len, fun j e h => ?_, fun j u h => ?_, f.loc.sep, f.loc.exc.mono pe⟩, ?_, ?_, f.new⟩, pe⟩
  · obtain ⟨v, q1, q2⟩ := f.loc.val j e h
    exact ⟨v, q1, q2.mono pe _ _⟩
  · obtain ⟨b, q1, q2⟩ := f.loc.own j u h
    exact ⟨b, q1, q2.1.mono pe fun o q => by rw [upd_ne (fun z => q2.2.2 n hg z.symm)]; exact q, q2.2⟩
  · refine ⟨by rw [List.length_set]; exact f.wf.len, fun i o h => ?_, f.wf.inj, f.wf.nF, fun a q => ?_⟩
    · by_cases hi : n = i
      · subst hi
        rw [List.getElem?_set_self hl] at h
        cases h
        exact ⟨vs, upd_same, r.mono pe _ _⟩
      · rw [List.getElem?_set_ne hi] at h
        have hi' : i < g.n := by rw [← f.wf.len]; exact (List.getElem?_eq_some_iff.mp h).1
        exact (f.wf.ob i o h).mono pe fun o q => by rw [upd_ne (fun z => hi (f.wf.inj i n hi' hg z).symm)]; exact q
    · obtain ⟨o, z⟩ := f.wf.tF a q
      exact ⟨o, by rw [upd_ne (fun y => f.wf.nF n hg (by rw [← y]; exact q))]; exact z⟩
  · have e := f.base
    have key : ∀ b o, B b = some o → (∀ i, i < gB.n → gB.ρ i ≠ b) → b ≠ g.ρ n := fun b o q hb z => by
      by_cases h : n < gB.n
      · exact hb n h (by rw [z, e.ρ n h])
      · have y := e.newρ n (Nat.le_of_not_lt h) hg
        rw [← z, q] at y; cases y
    refine ⟨⟨e.F, fun b o q1 q => ?_, fun b xs q => ?_, fun b o u q => ?_, e.n, e.ρ⟩, fun b o q hb => ?_, e.newF, e.newρ, fun b o q => ?_⟩
    · exact pe.kF b o (e.F b q1) (e.kF b o q1 q)
    · exact pe.kT b xs (e.kT b xs q)
    · exact pe.kZ b o u (e.kZ b o u q)
    · rw [upd_ne (key b o q hb)]; exact e.keep b o q hb
    · by_cases z : b = g.ρ n
      · subst z; exact ⟨_, upd_same⟩
      · obtain ⟨u, y⟩ := e.tr b o q
        exact ⟨u, by rw [upd_ne z]; exact y⟩
/-- an own list is never written again -/
theorem Fr.frz {i : Nat} {ds : List D} (f : Fr k B gB σ L H g S) (hi : L[i]? = some (.o (.lst ds))) : ∃ g', Fr k B gB σ (L.set i (.v (.lst ds))) H g' S ∧ PExt H g H g' := by
  obtain ⟨a, ha, oa⟩ := f.loc.own i _ hi
  have hl : i < L.length := (List.getElem?_eq_some_iff.mp hi).1
  have pe : PExt H g H (g.frz a) := PExt.frz
  have ow : ∀ {j : Nat} {u : O}, (L.set i (.v (.lst ds)))[j]? = some (.o u) → i ≠ j ∧ L[j]? = some (.o u) := fun {j u} h => by
    by_cases hj : i = j
    · subst hj
      rw [List.getElem?_set_self hl] at h; cases h
    · rw [List.getElem?_set_ne hj] at h; exact ⟨hj, h⟩
  refine ⟨g.frz a, ⟨⟨by rw [List.length_set, f.loc.len], fun j e h => ?_, fun j u h => ?_, fun j l u w b hj hl pj pl => f.loc.sep j l u w b (ow hj).2 (ow hl).2 pj pl, (f.loc.exc.mono pe).setL nofun⟩, f.wf.frzOwn oa, f.base.frzNew (f.new i _ a hi ha), fun j u b h h' => f.new j u b (ow h).2 h'⟩, pe⟩
  · by_cases hj : i = j
    · subst hj
      rw [List.getElem?_set_self hl] at h
      cases h
      exact ⟨_, ha, oa.frz⟩
    · rw [List.getElem?_set_ne hj] at h
      obtain ⟨v, q1, q2⟩ := f.loc.val j e h
      exact ⟨v, q1, q2.mono pe _ _⟩
  · obtain ⟨hj, h⟩ := ow h
    obtain ⟨b, q1, q2⟩ := f.loc.own j u h
    refine ⟨b, q1, q2.1.mono pe fun o q => q, fun z => ?_, q2.2.2⟩
    rcases z with z | z
    · subst z
      exact hj (f.loc.sep i j _ u b hi h ha q1)
    · exact q2.2.1 z
end
end Rf
set_option Elab.async false
set_option linter.all false
set_option maxRecDepth 100000
namespace Rf
open PySem L2 TL
def sNil : SM := fun L S => .ok .nx L S
def sSeq (a b : SM) : SM := fun L S => (a L S).seq b
def sBrk : SM := fun L S => .ok .bk L S
def sCnt : SM := fun L S => .ok .ct L S
def sRet (m : EM) : SM := fun L S => (m L S).st L fun d S1 => .ok (.rt d) L S1
def sRetN : SM := fun L S => .ok (.rt .non) L S
def sDrop (m : EM) : SM := fun L S => (m L S).st L fun _ S1 => .ok .nx L S1
def sSet (i : Nat) (m : EM) : SM := fun L S => (m L S).st L fun d S1 => .ok .nx (L.set i (.v d)) S1
def sOwn (i : Nat) (m : Ls → Sto → R (List D)) : SM := fun L S => (m L S).st L fun ds S1 => .ok .nx (L.set i (.o (.lst ds))) S1
def sFrz (i : Nat) (m : SM) : SM := fun L S => match L[i]? with
  | some (.o (.lst ds)) => m (L.set i (.v (.lst ds))) S
  | _ => m L S
def sTg (t : Tg) (m : EM) : SM := fun L S => (m L S).st L fun d S1 => match tgA t d L with
  | some L1 => .ok .nx L1 S1
  | none => .no
def sPar2 (i j : Nat) (m : Ls → Sto → R (List D)) : SM := fun L S => (m L S).st L fun ds S1 => match ds with
  | [d, e] => .ok .nx ((L.set i (.v d)).set j (.v e)) S1
  | _ => .no
def sPar3 (i j l : Nat) (m : Ls → Sto → R (List D)) : SM := fun L S => (m L S).st L fun ds S1 => match ds with
  | [d, e, f] => .ok .nx (((L.set i (.v d)).set j (.v e)).set l (.v f)) S1
  | _ => .no
def sIf (c : Ls → Sto → R Bool) (a b : SM) : SM := fun L S => (c L S).st L fun t S1 => if t = true then a L S1 else b L S1
/-- the own list at i, the store's object -/
def sApp (i : Nat) (m : EM) : SM := fun L S => match L[i]? with
  | some (.o (.lst ds)) => (m L S).st L fun d S1 => if ds.length < sizeLine then .ok .nx (L.set i (.o (.lst (ds ++ [d])))) S1 else .no
  | _ => .no
def sAppO (mo m : EM) : SM := fun L S => (mo L S).st L fun o S1 => match o with
  | .obj n => match S1[n]? with
    | some (.lst _) => (m L S1).st L fun d S2 => match S2[n]? with
      | some (.lst ds) => if ds.length < sizeLine then .ok .nx L (S2.set n (.lst (ds ++ [d]))) else .no
      | _ => .no
    | _ => .no
  | _ => .no
def sPut (i : Nat) (mi mv : EM) : SM := fun L S => (mv L S).st L fun d S1 => match L[i]? with
  | some (.o (.lst ds)) => (mi L S1).st L fun j S2 => match j with
    | .int k => match ixN ds.length k with
      | some jj => .ok .nx (L.set i (.o (.lst (ds.set jj d)))) S2
      | none => .no
    | _ => .no
  | _ => .no
def sPutO (mo mi mv : EM) : SM := fun L S => (mv L S).st L fun d S1 => (mo L S1).st L fun o S2 => match o with
  | .obj n => (mi L S2).st L fun j S3 => match j with
    | .int k => match S3[n]? with
      | some (.lst ds) => match ixN ds.length k with
        | some jj => .ok .nx L (S3.set n (.lst (ds.set jj d)))
        | none => .no
      | _ => .no
    | _ => .no
  | _ => .no
def sAug (i : Nat) (o : D → D → Option D) (m : EM) : SM := fun L S => match L[i]? with
  | some (.v x) => (m L S).st L fun y S1 => match o (deref S1 x) (deref S1 y) with
    | some z => .ok .nx (L.set i (.v z)) S1
    | none => .no
  | _ => .no
open Classical in
noncomputable def ckS (S : Sto) (all : List D) (dep : Dep) (r : RS) : RS := match dep with
  | none => r
  | some l => if DepC S l then r else .no
noncomputable def forL (dep : Dep) (all : List D) (t : Tg) (b : SM) : List D → SM
  | [], L, S => ckS S all dep (.ok .nx L S)
  | d :: ds, L, S => ckS S all dep (match tgA t d L with
    | none => .no
    | some L1 => match b L1 S with
      | .ok .nx L2 S2 => forL dep all t b ds L2 S2
      | .ok .ct L2 S2 => forL dep all t b ds L2 S2
      | .ok .bk L2 S2 => .ok .nx L2 S2
      | r => r)
noncomputable def sFor (mi : Ls → Sto → R Src) (t : Tg) (b : SM) : SM := fun L S => (mi L S).st L fun src S1 => forL src.2 src.1 t b src.1 L S1
theorem set_own {L : Ls} {i j : Nat} {d : D} {o : O} (h : (L.set i (.v d))[j]? = some (.o o)) : i ≠ j ∧ L[j]? = some (.o o) := by
  by_cases hj : i = j
  · subst hj
    by_cases hl : i < L.length
    · rw [List.getElem?_set_self hl] at h; cases h
    · rw [List.getElem?_eq_none (by rw [List.length_set]; omega)] at h; cases h
  · rw [List.getElem?_set_ne hj] at h; exact ⟨hj, h⟩
mutual
theorem tg_own : ∀ (t : Tg) (d : D) (L L1 : Ls) (j : Nat) (o : O), tgA t d L = some L1 → L1[j]? = some (.o o) → j ∉ t.slots ∧ L[j]? = some (.o o)
  | .nm i, d, L, L1, j, o, q, h => by
    cases q
    obtain ⟨h1, h2⟩ := set_own h
    exact ⟨by simp [Tg.slots, Ne.symm h1], h2⟩
  | .tup ts, .tup ds, L, L1, j, o, q, h => tgs_own ts ds L L1 j o q h
  | .tup ts, .lst ds, L, L1, j, o, q, h => tgs_own ts ds L L1 j o q h
  | .tup _, .non, _, _, _, _, q, _ => nomatch q
  | .tup _, .bl _, _, _, _, _, q, _ => nomatch q
  | .tup _, .int _, _, _, _, _, q, _ => nomatch q
  | .tup _, .str _, _, _, _, _, q, _ => nomatch q
  | .tup _, .obj _, _, _, _, _, q, _ => nomatch q
  | .tup _, .gl _, _, _, _, _, q, _ => nomatch q
  | .tup _, .ty _, _, _, _, _, q, _ => nomatch q
  | .tup _, .scr _, _, _, _, _, q, _ => nomatch q
theorem tgs_own : ∀ (ts : List Tg) (ds : List D) (L L1 : Ls) (j : Nat) (o : O), tgAs ts ds L = some L1 → L1[j]? = some (.o o) → j ∉ Tg.slotsL ts ∧ L[j]? = some (.o o)
  | [], [], L, L1, j, o, q, h => by cases q; exact ⟨by simp [Tg.slotsL], h⟩
  | [], _ :: _, _, _, _, _, q, _ => nomatch q
  | _ :: _, [], _, _, _, _, q, _ => nomatch q
  | t :: ts, d :: ds, L, L1, j, o, q, h => by
    simp only [tgAs] at q
    split at q
    · rename_i L2 e
      obtain ⟨h1, h2⟩ := tgs_own ts ds L2 L1 j o q h
      obtain ⟨h3, h4⟩ := tg_own t d L L2 j o e h2
      exact ⟨by simp only [Tg.slotsL, List.mem_append, not_or]; exact ⟨h3, h1⟩, h4⟩
    · cases q
end
theorem tg_fr {k : Kx} {B H : Hp} {gB g : G} {σ σ' : L2.St} {L L1 : Ls} {S : Sto} {t : Tg} {d : D} (f : Fr k B gB σ L H g S) (l : LocRel k σ' L1 H g) (q : tgA t d L = some L1) (fm : Frm t.slots σ σ') : Fr k B gB σ' L1 H g S :=
  ⟨l, f.wf, f.base, fun i o a h h' => by
    obtain ⟨h1, h2⟩ := tg_own t d L L1 i o q h
    rw [fm.2 i h1] at h'
    exact f.new i o a h2 h'⟩
section
variable {X : Cx} {W : WX} {st : Stmt} {sts rest : List Stmt} {e c : Expr} {pos pos' : Pos} {m ma mb : EM} {a b : SM}
theorem sb_nil : SB X W [] sNil := PSs.imp pss_nil fun D σ H ⟨L, S, g, B, gB, f, p⟩ => SPost.nx p f
theorem seq_read {D : Ends} {σ : L2.St} {H : Hp} {k : Kx} (h : tS k W (sSeq a b) D σ H) : tSeq (tS k W a) (tS k W b) D σ H := by
  obtain ⟨L, S, g, B, gB, f, p⟩ := h
  refine ⟨L, S, g, B, gB, f, ?_⟩
  have p0 : SPost k B gB W H g ((a L S).seq b) D := p
  cases q : a L S with
  | no => rw [q] at p0; exact p0
  | ex x L1 S1 => rw [q] at p0; exact p0
  | ok fl L1 S1 =>
    rw [q] at p0
    cases fl with
    | nx => exact fun σ' H' g' f' e => ⟨L1, S1, g', B, gB, f', SPost.from p0 e⟩
    | _ => exact p0
theorem sb_cons (h1 : SS X W st a) (h2 : SB X W rest b) : SB X W (st :: rest) (sSeq a b) := PSs.imp (pss_cons h1 h2) fun D σ H h => seq_read h
theorem ss_ret (h : SE X W e m) : SS X W (.Return (some e) pos) (sRet m) := PS.imp (ps_ret h) fun D σ H ⟨L, S, g, B, gB, f, p⟩ =>
  ⟨L, S, g, f.loc, f.wf, st_e f p fun d S1 v H1 g1 f1 e1 r p1 => p1 σ H1 g1 f1 (PExt.refl H1 g1) v r⟩
theorem no_swap (h : notComp e = true) {t : Option Expr} {l : Nat} {env : Env} : swapsWith e t l env = pure false := by
  cases e <;> first | rfl | cases h
theorem set_read {k : Kx} {i : Nat} {D : Ends} {σ : L2.St} {H : Hp} (h : tS k W (sSet i m) D σ H) : tAsg (tE k W m) (gName i) D σ H := by
  obtain ⟨L, S, g, B, gB, f, p⟩ := h
  exact ⟨L, S, g, f.loc, f.wf, st_e f p fun d S1 v H1 g1 f1 e1 r p1 => SPost.nx p1 (f1.set r)⟩
theorem own_read {k : Kx} {i : Nat} {mf : Ls → Sto → R (List D)} {D : Ends} {σ : L2.St} {H : Hp} (h : tS k W (sOwn i mf) D σ H) : tAsg (tF k W mf) (gName i) D σ H := by
  obtain ⟨L, S, g, B, gB, f, p⟩ := h
  exact ⟨L, S, g, f.loc, f.wf, st_e f p fun d S1 v H1 g1 f1 e1 r p1 => SPost.nx p1 (Fr.fresh f f1 r)⟩
theorem fz_read {k : Kx} {mf : Ls → Sto → R (List D)} {σ : L2.St} {H : Hp} {Q : VK} (h : tE k W (eFz mf) σ H Q) : tF k W mf σ H Q := by
  obtain ⟨L, S, g, l, w, p⟩ := h
  refine ⟨L, S, g, l, w, ?_⟩
  unfold eFz at p
  cases q : mf L S with
  | ok ds S1 =>
    rw [q] at p
    exact fun v H1 g1 e1 w1 ⟨a, h1, h2, h3⟩ => p v H1 (g1.frz a) (e1.frzNew h2) (w1.frzOwn h3) (by rw [h1]; exact h3.frz)
  | ex x S1 => rw [q] at p; exact p
  | no => rw [q] at p; exact p
section
variable {i j l : Nat} {x y z : Str} {mf : Ls → Sto → R (List D)}
theorem ss_set (hN : X.N.Nodup) (hi : X.N[i]? = some x) (hx : Loc X.env.scope x) (hf : X.fn x = true) (h : SE X W e m) (hn : notComp e = true) : SS X W (.Assign [.Name x pos'] e pos) (sSet i m) :=
  PS.imp (ps_set hN hi hx h (no_swap hn) (.inl hf)) fun D σ H q => set_read q
theorem ss_own (hN : X.N.Nodup) (hi : X.N[i]? = some x) (hx : Loc X.env.scope x) (hf : X.fn x = true) (h : SF X W e mf) (hn : notComp e = true) : SS X W (.Assign [.Name x pos'] e pos) (sOwn i mf) :=
  PS.imp (ps_set hN hi hx h (no_swap hn) (.inl hf)) fun D σ H q => own_read q
section
variable {elt tg iter : Expr} {ifs : List Expr} {scope : Scope} {own : List (Str × Nat)} {mi : Ls → Sto → R Src} {t : Tg} {tt : Ls → Sto → R Bool} {te : EM} {spos : Pos}
/-- name = [.. for ..] -/
theorem ps_lc (hc : X.calm = true) (hN : X.N.Nodup) (hy : X.N[i]? = some y) (hyl : X.env.scope.names.lookup y = some .local) (hk : X.env.scope.kind = .function) (hl : (pos'.line == spos.line) = true)
    (ha : (scope.names.any fun (n, k) => n == y && (k == .local || k == .cell)) = false) (hi : PI X tg iter (tI (kx X) Ext W mi)) (ok : BlkOk X.N X.env.scope scope own)
    (hg : ∀ (s : Shared) (H : Hp) (C : Addr) (cl : List (Str × Addr)) (fp : List Addr), PG (X.blk s H scope (compEnvC scope cl C X.env) fp) tg (tGt (kx X) t))
    (ht : ∀ (s : Shared) (H : Hp) (C : Addr) (cl : List (Str × Addr)) (fp : List Addr), PTs (X.blk s H scope (compEnvC scope cl C X.env) fp) ifs (tT (kx X) WN tt))
    (he : ∀ (s : Shared) (H : Hp) (C : Addr) (cl : List (Str × Addr)) (fp : List Addr), SE (X.blk s H scope (compEnvC scope cl C X.env) fp) WN elt te)
    (hs : ∀ i ∈ t.slots, i ∈ own.map (·.2)) (hm : notMark iter = true) : PS X (.Assign [.Name y pos'] (.ListComp elt [⟨tg, iter, ifs, 0⟩] scope spos) pos) (tAsg (tF (kx X) W (fLc mi (own.map (·.2)) t tt te)) (gName i)) :=
  PS.imp (ps_setLc hc hN hy hyl (sw_true hk hyl hl ha) hi ok hg ht (fun s H C cl fp => blk_e hc (he s H C cl fp)) (no_fold hm)) fun D σ H q => lc_read hs q
end
theorem ss_setLc (h : PS X st (tAsg (tF (kx X) W mf) (gName i))) : SS X W st (sSet i (eFz mf)) := PS.imp h fun D σ H q => fz_read (set_read q)
theorem ss_frz (h : SS X W st a) : SS X W st (sFrz i a) := PS.imp h fun D σ H ⟨L, S, g, B, gB, f, p⟩ => by
  unfold sFrz at p
  split at p
  · rename_i ds q
    obtain ⟨g', f', e⟩ := f.frz q
    exact ⟨_, S, g', B, gB, f', SPost.from p e⟩
  · exact ⟨L, S, g, B, gB, f, p⟩
theorem ss_tg {tg : Expr} {t : Tg} (hn : notComp e = true) (hw : swappedStores [tg] e X.env = pure none) (h1 : (assignEach [tg] X.env).map (·.2) = [assign tg X.env]) (h : SE X W e m) (hg : PG X tg (tGt (kx X) t)) :
    SS X W (.Assign [tg] e pos) (sTg t m) := PS.imp (ps_asg h hg (no_swap hn) hw h1) fun D σ H ⟨L, S, g, B, gB, f, p⟩ => ⟨L, S, g, f.loc, f.wf, st_e f p fun d S1 v H1 g1 f1 e1 r p1 => by
      cases q : tgA t d L with
      | none => rw [q] at p1; exact p1.elim
      | some L1 =>
        rw [q] at p1
        exact ⟨d, L, S1, g1, L1, r, f1.loc, f1.wf, q, fun σ' l' fm => SPost.nx p1 (tg_fr f1 l' q fm)⟩⟩
theorem par_read2 {k : Kx} {i j : Nat} {ma : Ls → Sto → R (List D)} {D : Ends} {σ : L2.St} {H : Hp} (h : tS k W (sPar2 i j ma) D σ H) : tPar i j (tAE k W ma) D σ H := by
  obtain ⟨L, S, g, B, gB, f, p⟩ := h
  refine ⟨L, S, g, f.loc, f.wf, st_e f p fun ds S1 vs H1 g1 f1 e1 r p1 => ?_⟩
  match ds, r, p1 with
  | [d, e], ⟨v, vr, e1, r1, w, wr, e2, r2, r3⟩, p1 =>
    subst e1 e2 r3
    exact ⟨v, w, rfl, SPost.nx p1 ((f1.set r1).set r2)⟩
  | [], _, p1 => exact p1.elim
  | [_], _, p1 => exact p1.elim
  | _ :: _ :: _ :: _, _, p1 => exact p1.elim
theorem ss_if {tc : Ls → Sto → R Bool} {p q : List Stmt} (hc : ST X W c tc) (ha : SB X W p a) (hb : SB X W q b) : SS X W (.If c p q pos) (sIf tc a b) := PS.imp (ps_if hc ha hb) fun D σ H ⟨L, S, g, B, gB, f, p⟩ =>
  ⟨L, S, g, f.loc, f.wf, st_e (P := fun _ _ (b c : Bool) => c = b) f p fun t S1 t' H1 g1 f1 e1 r p1 => by
    cases (show t' = t from r)
    cases t with
    | true => exact ⟨L, S1, g1, B, gB, f1, p1⟩
    | false => exact ⟨L, S1, g1, B, gB, f1, p1⟩⟩
theorem pe_app {o : Expr} {apos : Pos} {to te : TE} (ho : PE X o to) (he : PE X e te) (hs : noStar e = true) (hsup : notSuper o = true) (hl : (apos.endLine == pos.line) = true) :
    PE X (.Call (.Attribute o "append" apos) [e] [] pos) (tBM X.K "list" rAppend to (tCons te tNil)) :=
  pe_bm PySem.F.plainAttrs_list PySem.F.slot_list_append PySem.F.type_list_append mt_append ho (pa_cons he pa_nil (star_cons hs)) (not_super hsup) (by rw [star_cons hs]; rfl) hl (star_cons hs) rfl
theorem ss_app {i : Nat} {x : Str} {p apos : Pos} (hv : PE X (.Name x p) (tVar i)) (he : SE X W e m) (hs : noStar e = true) (hl : (apos.endLine == pos.line) = true) : SS X W (.Expr (.Call (.Attribute (.Name x p) "append" apos) [e] [] pos) pos') (sApp i m) :=
  PS.imp (ps_expr (pe_app hv he hs rfl hl) rfl) fun D σ H ⟨L, S, g, B, gB, f, p⟩ => by
    unfold sApp at p
    split at p
    · rename_i ds q
      obtain ⟨a, ha, oa⟩ := f.loc.own i _ q
      obtain ⟨us, hu, ru⟩ := id oa.1
      refine ⟨_, ha, .inl ⟨rfl, us, SqL.of hu⟩, L, S, g, f.loc, f.wf, st_e f p fun d S1 v H1 g1 f1 e1 r p1 => ?_⟩
      obtain ⟨us1, hu1, ru1⟩ := (oa.ext e1).1
      by_cases hz : ds.length < sizeLine
      · rw [if_pos hz] at p1
        obtain ⟨f2, pe⟩ := f1.chg q ha (ru1.append (.cons r .nil))
        exact ⟨a, us1, v, rfl, rfl, hu1, by rw [ru1.length]; exact hz, p1 σ _ g1 f2 pe⟩
      · rw [if_neg hz] at p1; exact p1.elim
    · exact p.elim
end
end
end Rf
set_option Elab.async false
set_option linter.all false
set_option maxRecDepth 100000
namespace Rf
open PySem L2 TL
theorem ckS_ok {k : Kx} {B : Hp} {gB : G} {W : WX} {H : Hp} {g : G} {S : Sto} {all : List D} {dep : Dep} {r : RS} {D : Ends} (h : SPost k B gB W H g (ckS S all dep r) D) : DepOk S all dep ∧ SPost k B gB W H g r D := by
  cases dep with
  | none => exact ⟨trivial, h⟩
  | some n =>
    unfold ckS at h
    dsimp only at h
    by_cases z : DepC S n
    · rw [if_pos z] at h; exact ⟨z, h⟩
    · rw [if_neg z] at h; exact h.elim
/-- a turn's end -/
theorem turn_end {k : Kx} {B : Hp} {gB : G} {W : WX} {H : Hp} {g : G} {r : RS} {D : Ends} {N : L2.St → Hp → Prop} {f : Ls → Sto → RS}
    (h : SPost k B gB W H g (match r with | .ok .nx L2 S2 => f L2 S2 | .ok .ct L2 S2 => f L2 S2 | .ok .bk L2 S2 => .ok .nx L2 S2 | r => r) D)
    (hN : ∀ σ' L' H' g' S', Fr k B gB σ' L' H' g' S' → PExt H g H' g' → SPost k B gB W H' g' (f L' S') D → N σ' H') : SPost k B gB W H g r { D with nx := N, ct := N, bk := D.nx } := by
  cases r with
  | no => exact h
  | ex x L S => exact h
  | ok fl L S =>
    cases fl with
    | nx => exact fun σ' H' g' fr e => hN σ' L H' g' S fr e (SPost.from h e)
    | ct => exact fun σ' H' g' fr e => hN σ' L H' g' S fr e (SPost.from h e)
    | bk => exact h
    | rt d => exact h
theorem for_read {k : Kx} {W : WX} {mi : Ls → Sto → R Src} {t : Tg} {b : SM} {D : Ends} {σ : L2.St} {H : Hp} (h : tS k W (sFor mi t b) D σ H) : tFor (tI k PExt W mi) (tGt k t) (tS k W b) D σ H := by
  obtain ⟨L, S, g, B, gB, f, p⟩ := h
  refine ⟨L, S, g, f.loc, f.wf, st_e f p fun src S1 J H1 g1 f1 e1 y p1 => ?_⟩
  obtain ⟨all, dep⟩ := src
  let Wv : Nat → Nat → L2.St → Hp → Prop := fun i m σ' H' => ∃ Lc Sc gc, m = all.length - i ∧ i ≤ all.length ∧ Fr k B gB σ' Lc H' gc Sc ∧ PExt H1 g1 H' gc ∧ SPost k B gB W H' gc (forL dep all t b (all.drop i) Lc Sc) D
  refine ⟨Wv, ⟨all.length, L, S1, g1, by omega, Nat.zero_le _, f1, PExt.refl H1 g1, by rw [List.drop_zero]; exact p1⟩, ?_⟩
  rintro i m σ2 H2 ⟨Lc, Sc, gc, rfl, hi, fc, ec, pc⟩
  by_cases hlt : i < all.length
  · rw [List.drop_eq_getElem_cons hlt] at pc
    obtain ⟨dok, pc⟩ := ckS_ok pc
    obtain ⟨go, yl⟩ := (y H2 gc Sc i ec fc.wf dok).2 all[i] (List.getElem?_eq_getElem hlt)
    refine .inr ⟨go, fun σ' H' => ∃ m', m' < all.length - i ∧ Wv (i + 1) m' σ' H', fun σ' H' h => h, fun x H3 hy => ?_⟩
    obtain ⟨e3, w3, r3⟩ := yl x H3 hy
    have f3 := fc.ext e3 w3
    cases q : tgA t all[i] Lc with
    | none => rw [q] at pc; exact pc.elim
    | some L1 =>
      rw [q] at pc
      refine ⟨all[i], Lc, Sc, gc, L1, r3, f3.loc, w3, q, fun σ4 l4 fm => ⟨L1, Sc, gc, B, gB, tg_fr f3 l4 q fm, turn_end (SPost.from pc e3.toPExt) fun σ' L' H' g' S' f' e' p' => ?_⟩⟩
      exact ⟨_, by omega, L', S', g', rfl, hlt, f', (ec.trans e3.toPExt).trans e', p'⟩
  · have ei : all.length = i := by omega
    rw [List.drop_eq_nil_of_le (by omega)] at pc
    obtain ⟨dok, pc⟩ := ckS_ok pc
    exact .inl ⟨(y H2 gc Sc i ec fc.wf dok).1 ei, SPost.nx pc fc⟩
section
variable {X : Cx} {W : WX} {c tg iter : Expr} {body : List Stmt} {pos : Pos} {b : SM} {mc : Ls → Sto → R Bool} {mi : Ls → Sto → R Src} {t : Tg}
theorem ss_for (hp : PassesOwn (model X.prog X.w) X.A X.env X.xe) (hc : X.calm = true) (hi : PI X tg iter (tI (kx X) PExt W mi)) (hg : PG X tg (tGt (kx X) t)) (hb : SB X W body b) (hm : notMark iter = true) : SS X W (.For tg iter body [] pos) (sFor mi t b) :=
  PS.imp (ps_for hp hc hi hg hb (no_fold hm)) fun D σ H h => for_read h
end
def endR : RS → R D
  | .ok .nx _ S => .ok .non S
  | .ok (.rt d) _ S => .ok d S
  | .ex x _ S => .ex x S
  | _ => .no
def fnSem (n np : Nat) (m : SM) : Fn := fun ds S => if ds.length = np then endR (m (ds.map .v ++ List.replicate (n - np) .un) S) else .no
theorem loc_start {k : Kx} {H : Hp} {g : G} {ds : List D} {vs : List V} {N : List Str} (r : RepL k H g ds vs) : LocRel k (L2.start N vs) (ds.map .v ++ List.replicate (N.length - ds.length) .un) H g where
  len := by unfold L2.start; simp [r.length]
  val := fun i d h => by
    unfold L2.start
    by_cases hi : i < ds.length
    · rw [List.getElem?_append_left (by rw [List.length_map]; exact hi), List.getElem?_map] at h
      cases q : ds[i]? with
      | none => rw [q] at h; cases h
      | some e =>
        rw [q] at h
        cases h
        obtain ⟨v, h1, h2⟩ := r.get q
        exact ⟨v, by rw [List.getElem?_append_left (by rw [List.length_map, r.length]; exact hi), List.getElem?_map, h1]; rfl, h2⟩
    · rw [List.getElem?_append_right (by rw [List.length_map]; omega), List.getElem?_replicate] at h
      split at h <;> cases h
  own := fun i o h => by
    by_cases hi : i < ds.length
    · rw [List.getElem?_append_left (by rw [List.length_map]; exact hi), List.getElem?_map] at h
      cases q : ds[i]? with
      | none => rw [q] at h; cases h
      | some e => rw [q] at h; cases h
    · rw [List.getElem?_append_right (by rw [List.length_map]; omega), List.getElem?_replicate] at h
      split at h <;> cases h
  sep := fun i j o u a h => by
    by_cases hi : i < ds.length
    · rw [List.getElem?_append_left (by rw [List.length_map]; exact hi), List.getElem?_map] at h
      cases q : ds[i]? with
      | none => rw [q] at h; cases h
      | some e => rw [q] at h; cases h
    · rw [List.getElem?_append_right (by rw [List.length_map]; omega), List.getElem?_replicate] at h
      split at h <;> cases h
  exc := fun i x h => by
    by_cases hi : i < ds.length
    · rw [List.getElem?_append_left (by rw [List.length_map]; exact hi), List.getElem?_map] at h
      cases q : ds[i]? with
      | none => rw [q] at h; cases h
      | some e => rw [q] at h; cases h
    · rw [List.getElem?_append_right (by rw [List.length_map]; omega), List.getElem?_replicate] at h
      split at h <;> cases h
theorem fn_body {k : Kx} {n np : Nat} {m : SM} {N : List Str} {vs : List V} {H : Hp} {Q : VK} {E : XK} (hn : N.length = n) (h : spC k (fnSem n np m) vs H Q E) :
    tS k (fun c d _ H => E c d H) m { nx := fun _ H' => Q .non H', rt := Q } (L2.start N vs) H := by
  obtain ⟨ds, S, g, r, w, p⟩ := h
  unfold fnSem at p
  split at p
  · rename_i hl
    subst hn
    subst hl
    refine ⟨_, S, g, H, g, ⟨loc_start r, w, Ext.refl H g, fun i o a h h' => ?_⟩, ?_⟩
    · exfalso
      by_cases hi : i < ds.length
      · rw [List.getElem?_append_left (by rw [List.length_map]; exact hi), List.getElem?_map] at h
        cases q : ds[i]? with
        | none => rw [q] at h; cases h
        | some e => rw [q] at h; cases h
      · rw [List.getElem?_append_right (by rw [List.length_map]; omega), List.getElem?_replicate] at h
        split at h <;> cases h
    · cases q : m (ds.map .v ++ List.replicate (N.length - ds.length) .un) S with
      | no => rw [q] at p; exact p.elim
      | ex x L S1 => rw [q] at p; exact fun c d σ' H' g' f' e' xr => p c d H' g' f'.base f'.wf xr
      | ok fl L S1 =>
        rw [q] at p
        cases fl with
        | nx => exact fun σ' H' g' f' e' => p .non H' g' f'.base f'.wf rfl
        | rt d => exact fun σ' H' g' f' e' v rv => p v H' g' f'.base f'.wf rv
        | bk => exact p.elim
        | ct => exact p.elim
  · exact p.elim
abbrev WE (E : XK) : WX := fun c d _ H => E c d H
/-- a def's body keeps its promise -/
theorem fn_ofG {P : Program} {w : World} {K : PySem.W.Frag} {mg : Str → Option Value} {base : Heap} {x qual : Str} {params : Arguments} {body : List Stmt} {scope : Scope} {dvs : List V} {kws : List (Str × V)} {f : Addr} {fd : FuncData} {CX : CXT} {N ps : List Str} {k : Nat} {sp : Sp}
    (F : FunD K x qual params body scope dvs kws f fd) (S : FnScope N ps scope) (len : ∀ vs H Q E, sp vs H Q E → vs.length = ps.length)
    (hbody : ∀ (cdv : Value) (A : Around) (outer : List Env) (s : Shared) (H : Hp) (vs : List V) (Q : VK) (E : XK), RoomG k (A.deeper (PyProof.Rows.envOfC qual scope s.heap.objs.size f cdv)) → sp vs H Q E →
      ∃ t, PSs (cxOf CX P w K mg base N qual scope f cdv A outer s H E) body t ∧ t { nx := fun _ H' => Q .non H', rt := Q } (L2.start N vs) H) : FnOkG P w K mg base CX (k + 1) f fd ps sp := by
  obtain ⟨oc, od, dV, kV, doc, pm, an, cdv, ct, osl, rfl, lk, hcd, _, _⟩ := F.ex
  refine ⟨len, fun A outer s H args us vs Q E hr e0 hb r hsp => ?_⟩
  have KX : K.In s.heap := e0.mod.kin.keeps fun b o e => (e0.bs b o e).1
  refine codeAny_call_function hr.depth (KX _ _ lk) rfl S.co S.gen rfl (PySem.W.codeRec_of KX hcd) (hb _ _ _ _ (wpAny_newFunctionEnv_cells S.kind (fun y hy => ?_) fun env he s1 z => ?_))
  · exact (S.par y.1 (List.of_mem_zip (a := y.1) (b := y.2) hy).1).imp id fun q => ⟨q, PySem.W.cellsFrom_some _ _ _ (.inl q)⟩
  · subst he
    obtain ⟨t, ht, hq⟩ := hbody cdv A outer s H vs Q E (hr.deeper _) hsp
    refine ⟨(e0.mod.nolimit.keeps fun b o e => (e0.bs b o e).1).keeps z.toInCall.keep, codeAny_func (wpAny_mono (ht.run [] s1 _ H _ (inv_start S hr.hd e0 (len _ _ _ _ hsp) r z) hq) (fun fl s' hs => ?_) fun e s' hs => hs)⟩
    match fl, hs with
    | .ret u, ⟨v, _, H', J, rv, q⟩ => exact ⟨v, H', J.os, J.bare, J.base, J.hok, rv, q⟩
    | .next, ⟨_, H', J, q⟩ => exact ⟨.non, H', J.os, J.bare, J.base, J.hok, rfl, q⟩
    | .brk, ⟨_, _, _, q⟩ => exact q.elim
    | .cont, ⟨_, _, _, q⟩ => exact q.elim
theorem rf_fn {P : Program} {w : World} {K : PySem.W.Frag} {mg : Str → Option Value} {base : Heap} {x qual : Str} {params : Arguments} {body : List Stmt} {scope : Scope} {dvs : List V} {kws : List (Str × V)} {f : Addr} {fd : FuncData} {N ps : List Str} {n np j : Nat} {m : SM}
    (F : FunD K x qual params body scope dvs kws f fd) (S : FnScope N ps scope) (hn : N.length = n) (hp : ps.length = np)
    (hb : ∀ (cdv : Value) (A : Around) (outer : List Env) (s : Shared) (H : Hp) (E : XK), RoomG j (A.deeper (PyProof.Rows.envOfC qual scope s.heap.objs.size f cdv)) →
      L2N.Takes (cxOf (L2N.CX P w) P w K mg base N qual scope f cdv A outer s H E) (WE E) → PassesOwn (model P w) (A.deeper (PyProof.Rows.envOfC qual scope s.heap.objs.size f cdv)) (PyProof.Rows.envOfC qual scope s.heap.objs.size f cdv) (cxOf (L2N.CX P w) P w K mg base N qual scope f cdv A outer s H E).xe →
      SB (cxOf (L2N.CX P w) P w K mg base N qual scope f cdv A outer s H E) (WE E) body m) : FnOkG P w K mg base (L2N.CX P w) (j + 1) f fd ps (spC (k0 K mg w) (fnSem n np m)) :=
  fn_ofG F S (fun vs H Q E ⟨ds, S, g, r, w, p⟩ => by
      unfold fnSem at p
      split at p
      · rename_i hl
        rw [r.length, hl, hp]
      · exact p.elim)
    fun cdv A outer s H vs Q E hr h => ⟨_, hb cdv A outer s H E hr (L2N.takes_of (X := cxOf (L2N.CX P w) P w K mg base N qual scope f cdv A outer s H E) rfl rfl rfl rfl) (passes_of (X := cxOf (L2N.CX P w) P w K mg base N qual scope f cdv A outer s H E) rfl), fn_body hn (h.kc rfl rfl rfl)⟩
end Rf
set_option Elab.async false
set_option linter.all false
set_option maxRecDepth 100000
namespace Rf
open PySem L2 TL
section
variable {X : Cx} {W : WX} {st : Stmt} {e a b c o ix : Expr} {pos pos' : Pos} {m mi mo : EM} {i j l : Nat} {x y z : Str} {ma : Ls → Sto → R (List D)}
theorem ss_par2 {px py pt pt2 : Pos} {kt k2 : Nat} (hc : X.calm = true) (hN : X.N.Nodup) (hi : X.N[i]? = some x) (hj : X.N[j]? = some y) (hij : i ≠ j)
    (hx : X.env.scope.names.lookup x = some .local) (hy : X.env.scope.names.lookup y = some .local) (ha : SAE X W [a, b] ma)
    (hw : swappedStores [.Tuple [.Name x px, .Name y py] kt pt] (.Tuple [a, b] k2 pt2) X.env = pure (some [x, y])) :
    SS X W (.Assign [.Tuple [.Name x px, .Name y py] kt pt] (.Tuple [a, b] k2 pt2) pos) (sPar2 i j ma) :=
  PS.imp (ps_par hc hN hi hj hij hx hy ha hw) fun D σ H h => par_read2 h
theorem ss_appO {apos : Pos} (ho : SE X W o mo) (he : SE X W e m) (hs : noStar e = true) (hsup : notSuper o = true) (hl : (apos.endLine == pos.line) = true) :
    SS X W (.Expr (.Call (.Attribute o "append" apos) [e] [] pos) pos') (sAppO mo m) :=
  PS.imp (ps_expr (pe_app ho he hs hsup hl) rfl) fun D σ H ⟨L, S, g, B, gB, f, p⟩ =>
    ⟨L, S, g, f.loc, f.wf, st_e f p fun d S1 v H1 g1 f1 e1 r p1 => by
      cases d with
      | obj n =>
        obtain ⟨hn, rfl⟩ := r
        obtain ⟨ob, hob⟩ : ∃ ob, S1[n]? = some ob := ⟨_, List.getElem?_eq_getElem (by rw [f1.wf.len]; exact hn)⟩
        cases ob with
        | lst ds0 =>
          simp only [hob] at p1
          obtain ⟨us, hu, _⟩ := f1.wf.ob n _ hob
          refine ⟨.inl ⟨rfl, us, SqL.of hu⟩, L, S1, g1, f1.loc, f1.wf, st_e f1 p1 fun d2 S2 v2 H2 g2 f2 e2 r2 p2 => ?_⟩
          split at p2
          · rename_i ds q
            split at p2
            · rename_i hz
              obtain ⟨us2, hu2, ru2⟩ := f2.wf.ob n _ q
              obtain ⟨f3, pe⟩ := f2.obj q (ru2.append (.cons r2 .nil))
              refine ⟨_, us2, v2, rfl, rfl, ?_, by rw [ru2.length]; exact hz, ?_⟩
              · rw [← e2.ρ n hn]; exact hu2
              · rw [← e2.ρ n hn]; exact p2 σ _ g2 f3 pe
            · exact p2.elim
          · exact p2.elim
        | _ => simp only [hob] at p1; exact p1.elim
      | _ => exact p1.elim⟩
theorem ss_putO {ps : Pos} (ho : SE X W o mo) (hi : SE X W ix mi) (he : SE X W e m) (hn : notComp e = true)
    (ha : ∀ v, assign (.Subscript o ix ps) X.env v = (do
      let ov ← holding [v] (eval o X.env)
      let iv ← holding [v, ov] (eval ix X.env)
      standAt ps
      holding [v, ov, iv] (setItem ov iv v)
      release [v, ov, iv] [])) : SS X W (.Assign [.Subscript o ix ps] e pos) (sPutO mo mi m) :=
  PS.imp (ps_asg he (pg_sub ho hi set_list ha) (by unfold swapsWithSole; exact no_swap hn) rfl rfl) fun D σ H ⟨L, S, g, B, gB, f, p⟩ =>
    ⟨L, S, g, f.loc, f.wf, st_e f p fun d S1 v H1 g1 f1 e1 r p1 => ⟨L, S1, g1, f1.loc, f1.wf, st_e f1 p1 fun od S2 w H2 g2 f2 e2 r2 p2 => by
      split at p2
      · rename_i n
        obtain ⟨hn, rfl⟩ := r2
        refine ⟨L, S2, g2, f2.loc, f2.wf, st_e f2 p2 fun jd S3 u H3 g3 f3 e3 r3 p3 => ?_⟩
        split at p3
        · rename_i kk
          cases r3
          split at p3
          · rename_i ds q
            split at p3
            · rename_i jj hjj
              obtain ⟨us, hu, ru⟩ := f3.wf.ob n _ q
              obtain ⟨f4, pe⟩ := f3.obj q (ru.set jj (r.mono (e2.trans e3).toPExt _ _))
              refine ⟨_, us, kk, jj, rfl, rfl, ?_, by rw [ru.length]; exact hjj, ?_⟩
              · rw [← e3.ρ n hn]; exact hu
              · rw [← e3.ρ n hn]; exact p3 σ _ g3 f4 pe
            · exact p3.elim
          · exact p3.elim
        · exact p3.elim
      · exact p2.elim⟩⟩
end
end Rf
set_option Elab.async false
set_option linter.all false
set_option maxRecDepth 100000
namespace Rf
open PySem L2 TL
abbrev Tb := List (List Nat × D)
def Tb.get (t : Tb) (z : List Nat) : Option D := (t.find? fun q => q.1 == z).map (·.2)
section
variable {X : Cx} {W : WX} {x : Str} {e : Expr} {p pos : Pos} {t : Tb} {m : EM}
def eInT (neg : Bool) (t : Tb) (m : EM) : EM := fun L S => (m L S).bind fun d S1 => match d with
  | .str z => .ok (.bl (neg != (t.get z).isSome)) S1
  | _ => .no
def eIxT (t : Tb) (m : EM) : EM := fun L S => (m L S).bind fun d S1 => match d with
  | .str z => lift (t.get z) S1
  | _ => .no
end
end Rf
set_option Elab.async false
set_option linter.all false
set_option maxRecDepth 100000
namespace Rf
open PySem L2 TL
theorem takes_no {X : Cx} : L2N.Takes X WN := fun _ _ ⟨_, _, _, _, _, _, _, _, _, _, _, _, _, _, _, _, z⟩ => z.elim
theorem se_str {X : Cx} {W : WX} {x : Str} {j : Nat} {pos : Pos} {l : List Nat} (h : x = ⟨l.toArray⟩) : SE X W (.Constant (.str x) j pos) (eC (.str l)) := se_const pe_str fun _ _ => by rw [h] <;> rfl
theorem se_int {X : Cx} {W : WX} {x : Int} {j : Nat} {pos : Pos} : SE X W (.Constant (.int x) j pos) (eC (.int x)) := se_const pe_int fun _ _ => rfl
theorem se_bl {X : Cx} {W : WX} {x : Bool} {j : Nat} {pos : Pos} : SE X W (.Constant (.bool x) j pos) (eC (.bl x)) := se_const pe_bl fun _ _ => rfl
theorem se_non {X : Cx} {W : WX} {j : Nat} {pos : Pos} : SE X W (.Constant .none j pos) (eC .non) := se_const pe_non fun _ _ => rfl
theorem ss_setS {X : Cx} {W : WX} {i : Nat} {x : Str} {e : Expr} {m : EM} {pos pos' : Pos} (hN : X.N.Nodup) (hi : X.N[i]? = some x) (hx : Loc X.env.scope x) (hf : X.fn x = true) (h : SE X W e m) (hs : swapsWith e (some (.Name x pos')) pos.line X.env = pure false) : SS X W (.Assign [.Name x pos'] e pos) (sSet i m) :=
  PS.imp (ps_set hN hi hx h hs (.inl hf)) fun D σ H q => set_read q
def sNo : SM := fun _ _ => .no
theorem sb_no {X : Cx} {W : WX} {sts : List Stmt} : SB X W sts sNo := PSs.imp pss_never fun D σ H ⟨_, _, _, _, _, _, p⟩ => p.elim
def FnIn (P : Program) (w : World) (K : PySem.W.Frag) (mg : Str → Option Value) (base : Heap) (x : Str) (j : Nat) (c : Fn) : Prop :=
  ∃ (f : Addr) (fd : FuncData) (ps : List Str), FnOkG P w K mg base (L2N.CX P w) j f fd ps (spC (k0 K mg w) c) ∧ mg x = some (.ref f) ∧ PySem.W.keepIn K (.ref f) = true ∧ Binds K fd ps []
theorem FnIn.at {P : Program} {w : World} {K : PySem.W.Frag} {mg : Str → Option Value} {base : Heap} {x : Str} {i j : Nat} {c : Fn} {X : Cx} (h : FnIn P w K mg base x j c) (hr : RoomG i X.A) (hl : j ≤ i)
    (h1 : X.prog = P) (h2 : X.w = w) (h3 : X.K = K) (h4 : X.mg = mg) (h5 : X.base = base) : FnAt X x c := by
  subst h1 h2 h3 h4 h5
  obtain ⟨f, fd, ps, F, hm, hk, hb⟩ := h
  exact ⟨j, f, fd, ps, F, hr.mono hl, hm, hk, hb⟩
/-- where a def stands -/
def DefAt (K : PySem.W.Frag) (mg : Str → Option Value) (x : Str) (st : Stmt) : Prop := ∃ (f : Addr) (fd : FuncData), FunD K x x (defArgs st) (defBody st) (defScope st) [] [] f fd ∧ mg x = some (.ref f)
theorem def_at {fa : List He.Fa} {fn : List He.DefD} {K : PySem.W.Frag} {h : Heap} {mg : Str → Option Value} (X : K.In h) (G : h.Ns mainGlobals mg) (c : He.SaysD fa fn K) {x : Str} {st : Stmt}
    (h1 : (⟨(x, none), x, x, defArgs st, defBody st, defScope st, [], []⟩ : He.DefD) ∈ fn) (h2 : He.Fa.glo x ∈ fa) : DefAt K mg x st := by
  obtain ⟨fd, F⟩ := c.defs h1
  exact ⟨_, fd, F, He.glo_ok X G (c.facts h2)⟩
theorem free_at {fa : List He.Fa} {fn : List He.DefD} {K : PySem.W.Frag} {h : Heap} {mg : Str → Option Value} (X : K.In h) (G : h.Ns mainGlobals mg) (c : He.SaysD fa fn K) {x : Str} (h2 : He.Fa.free x ∈ fa) : mg x = none := He.free_ok X G (c.facts h2)
theorem law_end {k : Kx} {c : Fn} {ns : List Int} (h : ∃ S, c [.scr ns] [] = .ok (.bl true) S) {H : Hp} {a : Addr} (hl : Only H) (hs : SqL k.K H a (ns.map V.int)) : spC k c [.ref a] H (fun v _ => v = .bl true) (fun _ _ _ => False) := by
  obtain ⟨S, e⟩ := h
  refine ⟨[.scr ns], [], ⟨fun _ => False, fun _ => 0, 0⟩, ⟨_, [], rfl, ⟨a, rfl, ?_⟩, rfl⟩, ⟨rfl, fun i o h => by simp at h, fun i j h => absurd h (Nat.not_lt_zero _), fun i h => absurd h (Nat.not_lt_zero _), fun a h => h.elim⟩, ?_⟩
  · rcases hs with hs | hs
    · rcases hs with hs | ⟨o, hs⟩
      · rcases hl a with z | ⟨o, xs, z⟩
        · rw [hs] at z; cases z
        · rw [hs] at z; cases z
      · exact .inl ⟨o, hs⟩
    · exact .inr hs
  · rw [e]
    exact fun v H' g' e w r => r
theorem no_cx {P : Program} {w : World} (H : Hp) (s : Shared) (e : Value) (s' : Shared) (h : L2N.CX P w [] H s (fun _ _ _ => False) e s') : False := by
  obtain ⟨_, _, _, _, _, _, _, _, _, _, _, _, h⟩ := h
  exact h
open PySem.Spec PyProof.Rows in
/-- the law is called: from the promise to the end -/
theorem law_callG {P : Program} {w : World} {K : PySem.W.Frag} {mg mb : Str → Option Value} {CX : CXT} {k : Nat} {fa a : Addr} {fd : FuncData} {x : Str} {sp : Sp} {s : Shared} {vs : List Value} {ns : List Int}
    (KX : K.In s.heap) (hns : s.heap.Ns mainGlobals mg) (hb : s.heap.Ns builtinsNs mb) (hbb : ∀ x : Str, x ≠ "__name__" → mb x = bootBuiltins x) (hlim : s.heap.NoLimit) (hg : s.gens = #[])
    (ha : s.heap.get? a = some { cls := .type "list", data := .seq vs.toArray }) (hi : IntsAre vs ns) (hl : ns.length ≤ sizeLine) (hr : RoomG k callerA)
    (F : ∀ base : Heap, K.In base → base.Ns mainGlobals mg → FnOkG P w K mg base CX k fa fd [x] sp) (hbind : ∀ (s : Shared) (u : Value), BindsTo s fd ⟨[u], []⟩ [(x, u)])
    (hsp : ∀ H : Hp, Only H → SqL K H a (ns.map V.int) → sp [.ref a] H (fun v _ => v = .bl true) fun _ _ _ => False) (hCX : ∀ H e s', CX [] H s (fun _ _ _ => False) e s' → False) :
    codeAny (model P w) callerA (.call (.ref fa) ⟨[.ref a], []⟩) (fun r s' => r = .ok (.ret (.bool true)) ∧ OldK s.heap s'.heap ∧ s'.os = s.os ∧ AllBare s'.gens) s := by
  have rv := vals_ints hi
  have go : ∀ H : Hp, Only H → SqL K H a (ns.map V.int) → HOk P w H s.heap → (∀ b, H b ≠ none → b = a ∧ K.lookup a = none) →
      codeAny (model P w) callerA (.call (.ref fa) ⟨[.ref a], []⟩) (fun r s' => r = .ok (.ret (.bool true)) ∧ OldK s.heap s'.heap ∧ s'.os = s.os ∧ AllBare s'.gens) s := by
    intro H hO hS hok hA
    -- what is no list is not tracked
    have free : ∀ {b : Addr} {o : Obj}, s.heap.get? b = some o → (∀ xs n, o.data ≠ .seq xs n) → H b = none := fun {b o} e d => Classical.byContradiction fun q => by
      rw [(hA b q).1, ha] at e
      cases e
      exact d _ _ rfl
    have ns : ∀ {b : Addr} {m : Str → Option Value}, s.heap.Ns b m → (hidT s.heap H).Ns b m := fun ⟨o, es, ep, e, d, r⟩ => ⟨o, es, ep, hidT_get e (free e fun _ _ z => by rw [d] at z; cases z), d, r⟩
    have kin : K.In (hidT s.heap H) := fun b o e => hidT_get (KX b o e) (Classical.byContradiction fun q => by
      obtain ⟨q1, q2⟩ := hA b q
      rw [q1, q2] at e; cases e)
    have mod : Mod K mg (hidT s.heap H) := ⟨kin, ns hns, ⟨mb, ns hb, hbb⟩, hlim.elim fun mc h => ⟨mc, ns h.1, h.2⟩⟩
    refine codeAny_mono ((F _ kin (ns hns)).run callerA [] s H ⟨[.ref a], []⟩ [.ref a] [.ref a] _ _ hr ⟨rfl, mod, fun b o e => of_hidT e, Nat.le_of_eq (hidT_size _ _), trivial, (fun b hb => absurd (show b ∈ ([] : List Addr) from hb) (by simp)), hok, .of_eq hg⟩ (hbind s (.ref a)) (.cons rfl .nil) (hsp H hO hS)) fun r s' h => ?_
    match r, h with
    | .error e, h => exact (hCX H e s' h).elim
    | .ok (.ret u), ⟨v, H', os, bare, un, hok', r', q⟩ =>
      cases (show v = .bl true from q)
      cases (show u = Value.bool true from r')
      refine ⟨rfl, OldK.of_keep fun b o e => ?_, os, bare⟩
      rcases hO b with z | ⟨ob, xs, z⟩
      · exact un.keep b o e z (fun y => absurd (show b ∈ ([] : List Addr) from y) (by simp)) (by simp)
      · have e1 := (hok b _ z).1
        rw [e] at e1
        cases e1
        exact (hok' b _ (un.frzs b _ _ z)).1
  cases hk : K.lookup a with
  | some o =>
    have e := KX a o hk
    rw [ha] at e
    cases e
    exact go (fun _ => none) (fun _ => .inl rfl) (.inr ⟨_, vs.toArray, _, hk, rfl, rfl, rfl, by rw [List.size_toArray, hi.length]; exact hl, by simpa using rv⟩) (fun b u z => by cases (show (none : Option HO) = some u from z)) fun b z => absurd rfl z
  | none =>
    refine go (upd (fun _ => none) a (.frz { cls := .type "list", data := .seq vs.toArray } (.lst (ns.map V.int)))) (fun b => ?_) (.inl (.inr ⟨_, upd_same⟩)) (fun b u z => ?_) fun b z => ⟨Classical.byContradiction fun q => z (by rw [upd_ne q]), hk⟩
    · by_cases q : b = a
      · subst q; exact .inr ⟨_, _, upd_same⟩
      · exact .inl (by rw [upd_ne q])
    · by_cases q : b = a
      · subst q
        rw [upd_same] at z
        cases z
        exact ⟨ha, by rw [List.length_map]; exact hl, vs, _, rv, ha⟩
      · rw [upd_ne q] at z; cases z
theorem rf_walk {l : PySem.W.OpenLaw} {n k : Nat} {q : Program} {loose : List Str} {XP : (Str → Option Value) → Heap → Prop} {YP : World → Heap → Prop} {d : DefRec} {x : Str} {c : Fn}
    (h1 : l.most = some n) (h2 : n ≤ sizeLine) (h3 : d.params.defaults = []) (h4 : RoomG k callerA)
    (h5 : ∀ (w : World) (mg : Str → Option Value) (f : Addr) (h : Heap), YP w h → h.Ns mainGlobals mg → mg d.name = some (.ref f) → ∃ (K : PySem.W.Frag) (fd : FuncData), K.In h ∧ (∀ (s : Shared) (u : Value), BindsTo s fd ⟨[u], []⟩ [(x, u)]) ∧
      ∀ base : Heap, FnOkG l.prog w K mg base (L2N.CX l.prog w) k f fd [x] (spC (k0 K mg w) c))
    (law : ∀ ns : List Int, ns.length ≤ n → ∃ S, c [.scr ns] [] = .ok (.bl true) S) : PySem.W.WalkO q loose XP YP l.row.toRowW d [] (fun f vs => PySem.call f vs) := by
  refine Att.attach_call h1 h3 fun w _ s₁ mg _ f _ _ _ _ a vs ns G Y _ _ _ hmg hob hin hle hge => ?_
  obtain ⟨K, fd, KX, hb, hF⟩ := h5 w mg f _ Y G.T.g hmg
  exact law_callG (sp := spC (k0 K mg w) c) KX G.T.g G.T.b G.T.builtins G.T.nolimit hge hob hin (Nat.le_trans hle h2) h4 (fun base _ _ => hF base) hb
    (fun H hO hS => law_end (k := k0 K mg w) (law ns hle) hO hS) fun H e s' => no_cx H s₁ e s'
end Rf
set_option Elab.async false
set_option linter.all false
set_option maxRecDepth 100000
set_option maxHeartbeats 0
namespace Rf
open PySem L2 TL
/-- what is wanted where an exception leaves -/
class ExP where
  E : Exn → Sto → Prop
@[reducible] instance (priority := 10) noXP : ExP := ⟨fun _ _ => False⟩
def wpP [xp : ExP] {α : Type} (r : R α) (P : α → Sto → Prop) : Prop := match r with
  | .ok a S => P a S
  | .ex x S => xp.E x S
  | .no => False
def wpsP [xp : ExP] (r : RS) (P : Fl → Ls → Sto → Prop) : Prop := match r with
  | .ok f L S => P f L S
  | .ex x _ S => xp.E x S
  | .no => False
/-- a structure, lest tactics look into it -/
structure WP (xp : ExP) {α : Type} (r : R α) (P : α → Sto → Prop) : Prop where
  out : wpP r P
abbrev wp [xp : ExP] {α : Type} (r : R α) (P : α → Sto → Prop) : Prop := WP xp r P
structure WPS (xp : ExP) (r : RS) (P : Fl → Ls → Sto → Prop) : Prop where
  out : wpsP r P
abbrev wps [xp : ExP] (r : RS) (P : Fl → Ls → Sto → Prop) : Prop := WPS xp r P
variable {xp : ExP}
theorem wp_eq {α : Type} {r : R α} {P : α → Sto → Prop} : wp r P = wpP r P := propext ⟨fun h => h.out, fun h => ⟨h⟩⟩
theorem wps_eq {r : RS} {P : Fl → Ls → Sto → Prop} : wps r P = wpsP r P := propext ⟨fun h => h.out, fun h => ⟨h⟩⟩
section
variable {α β : Type} {r : R α} {P Q : α → Sto → Prop} {S : Sto} {L : Ls}
theorem wp_bind {f : α → Sto → R β} {P : β → Sto → Prop} : wp (r.bind f) P = wp r fun a S => wp (f a S) P := by
  rw [wp_eq, wp_eq]
  cases r with
  | ok a S => exact wp_eq.symm
  | _ => rfl
theorem wps_st {f : α → Sto → RS} {P : Fl → Ls → Sto → Prop} : wps (r.st L f) P = wp r fun a S => wps (f a S) P := by
  rw [wps_eq, wp_eq]
  cases r with
  | ok a S => exact wps_eq.symm
  | _ => rfl
theorem wps_seq {r : RS} {f : Ls → Sto → RS} {P : Fl → Ls → Sto → Prop} : wps (r.seq f) P = wps r fun fl L S => match fl with
    | .nx => wps (f L S) P
    | fl => P fl L S := by
  rw [wps_eq, wps_eq]
  cases r with
  | ok fl L S =>
    cases fl with
    | nx => exact wps_eq.symm
    | _ => rfl
  | _ => rfl
theorem wp.mono (h : wp r P) (i : ∀ a S, P a S → Q a S) : wp r Q := by cases r with | ok a S => exact ⟨i a S h.out⟩ | ex x S => exact ⟨h.out⟩ | no => exact h.out.elim
theorem wp.ex (h : @wp noXP α r P) : ∃ a S, r = .ok a S ∧ P a S := by cases r with | ok a S => exact ⟨a, S, rfl, h.out⟩ | _ => exact h.out.elim
theorem wp.of {a : α} (e : r = .ok a S) (h : P a S) : wp r P := by rw [e]; exact ⟨h⟩
theorem wps.mono {r : RS} {P Q : Fl → Ls → Sto → Prop} (h : wps r P) (i : ∀ a L S, P a L S → Q a L S) : wps r Q := by cases r with | ok a L S => exact ⟨i a L S h.out⟩ | ex x L S => exact ⟨h.out⟩ | no => exact h.out.elim
/-- where no exception leaves, any wish will do -/
theorem wp.up (h : @wp noXP α r P) : wp r P := by cases r with | ok a S => exact ⟨h.out⟩ | ex x S => exact h.out.elim | no => exact h.out.elim
theorem wps.up {r : RS} {P : Fl → Ls → Sto → Prop} (h : @wps noXP r P) : wps r P := by cases r with | ok a L S => exact ⟨h.out⟩ | ex x L S => exact h.out.elim | no => exact h.out.elim
theorem wp_end {r : RS} {P : D → Sto → Prop} (h : wps r fun fl _ S => match fl with
    | .nx => P .non S
    | .rt d => P d S
    | _ => False) : wp (endR r) P := by
  cases r with
  | ok fl L S => cases fl <;> exact ⟨h.out⟩
  | ex x L S => exact ⟨h.out⟩
  | no => exact h.out.elim
end
/-- the law's deck at the store's first two places, n draws to come -/
def Deck (T : Sto) (n : Nat) (S : Sto) : Prop := ∃ (cs : List Int) (c : Int), S = .lst (cs.map .int) :: .lst [.obj 0, .int c] :: T ∧ (∀ x ∈ cs, 0 ≤ x) ∧ 0 ≤ c ∧ c + n ≤ 2 ^ 40 ∧ cs.length ≤ 63
theorem Deck.le {T S : Sto} {n m : Nat} (h : Deck T n S) (e : m ≤ n) : Deck T m S := by
  obtain ⟨cs, c, h1, h2, h3, h4, h5⟩ := h
  exact ⟨cs, c, h1, h2, h3, by omega, h5⟩
noncomputable def m_deck : SM := sSeq (sRet (eNw (fLst (aCons (eNw (fLc (iVal (eSl (pVar 0) (oNo) (oSo (eC (.int 63))))) [1] (.nm 1) (tYs) (eCall bAbs (aCons (pVar 1) (aNil))))) (aCons (eC (.int 0)) (aNil)))))) (sNil)
theorem wp_lc {all : List D} {t : Tg} {tt : Ls → Sto → R Bool} {te : EM} {Lw : Ls} {P : List D → Sto → Prop} (I : List D → Sto → List D → Prop)
    (step : ∀ d ds S acc, I (d :: ds) S acc → ∃ L1, tgA t d Lw = some L1 ∧ @wp noXP _ (tt L1 S) fun b S1 => if b = true then @wp noXP _ (te L1 S1) fun y S2 => acc.length < sizeLine ∧ I ds S2 (acc ++ [y]) else I ds S1 acc)
    (done : ∀ S acc, I [] S acc → P acc S) : ∀ (ds : List D) (S : Sto) (acc : List D), I ds S acc → wp (lcLoop none all t tt te Lw ds S acc) P
  | [], S, acc, h => ⟨done S acc h⟩
  | d :: ds, S, acc, h => by
    obtain ⟨L1, e, h⟩ := step d ds S acc h
    rw [lcLoop, ckd, e]
    dsimp only
    cases q : tt L1 S with
    | no => rw [q] at h; exact h.out.elim
    | ex x S1 => rw [q] at h; exact h.out.elim
    | ok b S1 =>
      rw [q] at h
      have h' : if b = true then @wp noXP _ (te L1 S1) (fun y S2 => acc.length < sizeLine ∧ I ds S2 (acc ++ [y])) else I ds S1 acc := h.out
      dsimp only [R.nox, R.bind]
      by_cases hb : b = true
      · rw [if_pos hb] at h' ⊢
        cases q2 : te L1 S1 with
        | no => rw [q2] at h'; exact h'.out.elim
        | ex x S2 => rw [q2] at h'; exact h'.out.elim
        | ok y S2 =>
          rw [q2] at h'
          obtain ⟨hz, h'⟩ := h'.out
          dsimp only
          rw [if_pos hz]
          exact wp_lc I step done ds S2 _ h'
      · rw [if_neg hb] at h' ⊢
        exact wp_lc I step done ds S1 acc h'
theorem lc_map {all : List D} {t : Tg} {tt : Ls → Sto → R Bool} {te : EM} {Lw : Ls} {S : Sto} (f : D → D) : ∀ (ds acc : List D), (∀ d ∈ ds, ∃ L1, tgA t d Lw = some L1 ∧ tt L1 S = .ok true S ∧ te L1 S = .ok (f d) S) → acc.length + ds.length ≤ sizeLine →
    lcLoop none all t tt te Lw ds S acc = .ok (acc ++ ds.map f) S
  | [], acc, _, _ => by rw [lcLoop, ckd, List.map_nil, List.append_nil]
  | d :: ds, acc, h, hz => by
    obtain ⟨L1, e1, e2, e3⟩ := h d List.mem_cons_self
    rw [List.length_cons] at hz
    rw [lcLoop, ckd, e1]
    dsimp only
    rw [e2]
    dsimp only [R.nox, R.bind]
    rw [if_pos rfl, e3]
    dsimp only
    rw [if_pos (by omega), lc_map f ds (acc ++ [f d]) (fun x hx => h x (List.mem_cons_of_mem _ hx)) (by rw [List.length_append, List.length_singleton]; omega), List.map_cons, List.append_assoc, List.singleton_append]
theorem wps_for {all : List D} {t : Tg} {b : SM} {P : Fl → Ls → Sto → Prop} (I : List D → Ls → Sto → Prop)
    (step : ∀ d ds L S, I (d :: ds) L S → ∃ L1, tgA t d L = some L1 ∧ wps (b L1 S) fun fl L2 S2 => match fl with
      | .nx => I ds L2 S2
      | .ct => I ds L2 S2
      | .bk => P .nx L2 S2
      | fl => P fl L2 S2)
    (done : ∀ L S, I [] L S → P .nx L S) : ∀ (ds : List D) (L : Ls) (S : Sto), I ds L S → wps (forL none all t b ds L S) P
  | [], L, S, h => ⟨done L S h⟩
  | d :: ds, L, S, h => by
    obtain ⟨L1, e, h⟩ := step d ds L S h
    rw [forL, ckS, e]
    dsimp only
    cases q : b L1 S with
    | no => rw [q] at h; exact h.out.elim
    | ex x L2 S2 => rw [q] at h; exact ⟨h.out⟩
    | ok fl L2 S2 =>
      rw [q] at h
      cases fl with
      | nx => exact wps_for I step done ds L2 S2 h.out
      | ct => exact wps_for I step done ds L2 S2 h.out
      | bk => exact ⟨h.out⟩
      | rt d => exact ⟨h.out⟩
noncomputable def c_deck : Fn := fnSem 2 1 m_deck
theorem deck_new {ns : List Int} (h : ns.length ≤ 63) {n : Nat} (hn : n ≤ 2 ^ 40) : ∃ S, c_deck [.scr ns] [] = .ok (.obj 1) S ∧ Deck [] n S := by
  have e : cutD (ns.map D.int) none (some 63) = ns.map .int := by
    unfold cutD
    have h1 : HT.sIx (ns.map D.int).length 0 none = 0 := rfl
    have h2 : HT.sIx (ns.map D.int).length (ns.map D.int).length (some 63) = (ns.map D.int).length := by
      rw [List.length_map]
      unfold HT.sIx
      simp
      omega
    rw [h1, h2, List.drop_zero, Nat.sub_zero, List.take_length]
  refine ⟨[.lst ((ns.map fun i => if i < 0 then -i else i).map .int), .lst [.obj 0, .int 0]], ?_, ⟨_, 0, rfl, fun x hx => ?_, Int.le_refl _, by omega, by rw [List.length_map]; exact h⟩⟩
  · have key : lcLoop none (ns.map D.int) (.nm 1) tYs (eCall bAbs (aCons (pVar 1) aNil)) [.v (.scr ns), .un] (ns.map .int) [] [] = .ok ((ns.map fun i => if i < 0 then -i else i).map .int) [] := by
      rw [lc_map (fun d => match d with | .int i => .int (if i < 0 then -i else i) | d => d) (ns.map .int) [] ?_ ?_]
      · rw [List.nil_append, List.map_map, List.map_map]
        rfl
      · intro d hd
        obtain ⟨i, _, rfl⟩ := List.mem_map.mp hd
        exact ⟨_, rfl, rfl, rfl⟩
      · rw [List.length_map, List.length_nil]
        have : (63 : Nat) ≤ sizeLine := by decide
        omega
    have k1 : fLc (iVal (eSl (pVar 0) oNo (oSo (eC (.int 63))))) [1] (.nm 1) tYs (eCall bAbs (aCons (pVar 1) aNil)) [.v (.scr ns), .un] [] = .ok ((ns.map fun i => if i < 0 then -i else i).map .int) [] := by
      show lcLoop none (cutD (ns.map D.int) none (some 63)) (.nm 1) tYs (eCall bAbs (aCons (pVar 1) aNil)) [.v (.scr ns), .un] (cutD (ns.map D.int) none (some 63)) [] [] = _
      rw [e]
      exact key
    have k2 : ∀ (x : Ls → Sto → R (List D)) (L : Ls) (l : List D), x L [] = .ok l [] → endR (sSeq (sRet (eNw (fLst (aCons (eNw x) (aCons (eC (.int 0)) aNil))))) sNil L []) = .ok (.obj 1) [.lst l, .lst [.obj 0, .int 0]] := by
      intro x L l hx
      simp only [sSeq, sRet, eNw, fLst, aCons, hx, aNil, eC]
      rfl
    exact k2 _ _ _ k1
  · obtain ⟨i, _, rfl⟩ := List.mem_map.mp hx
    show 0 ≤ if i < 0 then -i else i
    split <;> omega
section
variable {P : D → Sto → Prop} {PL : List D → Sto → Prop} {PB : Bool → Sto → Prop} {PO : Option Int → Sto → Prop} {PS : Fl → Ls → Sto → Prop} {PR : Src → Sto → Prop} {L : Ls} {S : Sto} {i j l : Nat} {d : D} {ds : List D} {a b c m : EM} {ma mr : Ls → Sto → R (List D)} {ta tb : Ls → Sto → R Bool} {sa sb : SM}
theorem r_lift {α : Type} {o : Option α} {Q : α → Sto → Prop} (h : ∃ z, o = some z ∧ Q z S) : wp (lift o S) Q := by obtain ⟨z, rfl, h⟩ := h; exact ⟨h⟩
theorem r_eVar (h : L[i]? = some (.v d)) (k : P d S) : wp (eVar i L S) P := by unfold eVar; rw [h]; exact ⟨k⟩
theorem r_pVar (h : L[i]? = some (.v d)) (k : P d S) : wp (pVar i L S) P := by unfold pVar; rw [h]; exact ⟨k⟩
theorem r_pOwn (h : L[i]? = some (.o (.lst ds))) (k : P (.lst ds) S) : wp (pVar i L S) P := by unfold pVar; rw [h]; exact ⟨k⟩
theorem r_ok (k : P d S) : wp (.ok d S) P := ⟨k⟩
theorem r_okL (k : PL ds S) : wp (.ok ds S) PL := ⟨k⟩
theorem r_eC (k : P d S) : wp (eC d L S) P := ⟨k⟩
theorem r_eBin {o : D → D → Option D} (h : wp (a L S) fun x S1 => wp (b L S1) fun y S2 => ∃ z, o (deref S2 x) (deref S2 y) = some z ∧ P z S2) : wp (eBin o a b L S) P := by
  unfold eBin; rw [wp_bind]; refine h.mono fun x S1 h => ?_; rw [wp_bind]; exact h.mono fun y S2 h => r_lift h
theorem r_eCh {o o' : D → D → Option D} (h : wp (a L S) fun x S1 => wp (b L S1) fun y S2 => ∃ t, o (deref S2 x) (deref S2 y) = some (.bl t) ∧ (t = true → wp (c L S2) fun z S3 => ∃ w, o' (deref S3 y) (deref S3 z) = some w ∧ P w S3) ∧ (t = false → P (.bl false) S2)) : wp (eCh o o' a b c L S) P := by
  unfold eCh; rw [wp_bind]; refine h.mono fun x S1 h => ?_; rw [wp_bind]; refine h.mono fun y S2 ⟨t, e, h1, h2⟩ => ?_
  rw [e]
  cases t with
  | true => show wp (R.bind _ _) P; rw [wp_bind]; exact (h1 rfl).mono fun z S3 h => r_lift h
  | false => first | exact h2 rfl | exact ⟨h2 rfl⟩ | exact (h2 rfl).mono fun _ _ k => ⟨k⟩
theorem r_eAn (h : wp (a L S) fun d S1 => ∃ t, d = .bl t ∧ (t = true → wp (b L S1) P) ∧ (t = false → P (.bl false) S1)) : wp (eAn a b L S) P := by
  unfold eAn; rw [wp_bind]; refine h.mono fun d S1 ⟨t, e, h1, h2⟩ => ?_
  subst e; cases t with
  | true => first | exact h1 rfl | exact ⟨h1 rfl⟩ | exact (h1 rfl).mono fun _ _ k => ⟨k⟩
  | false => first | exact h2 rfl | exact ⟨h2 rfl⟩ | exact (h2 rfl).mono fun _ _ k => ⟨k⟩
theorem r_eOo (h : wp (a L S) fun d S1 => ∃ t, d = .bl t ∧ (t = true → P (.bl true) S1) ∧ (t = false → wp (b L S1) P)) : wp (eOo a b L S) P := by
  unfold eOo; rw [wp_bind]; refine h.mono fun d S1 ⟨t, e, h1, h2⟩ => ?_
  subst e; cases t with
  | true => first | exact h1 rfl | exact ⟨h1 rfl⟩ | exact (h1 rfl).mono fun _ _ k => ⟨k⟩
  | false => first | exact h2 rfl | exact ⟨h2 rfl⟩ | exact (h2 rfl).mono fun _ _ k => ⟨k⟩
theorem r_eNt (h : wp (a L S) fun d S1 => ∃ t, d = .bl t ∧ P (.bl (!t)) S1) : wp (eNt a L S) P := by
  unfold eNt; rw [wp_bind]; refine h.mono fun d S1 ⟨t, e, h1⟩ => ?_
  subst e; first | exact h1 | exact ⟨h1⟩ | exact (h1).mono fun _ _ k => ⟨k⟩
theorem r_eIf (h : wp (ta L S) fun t S1 => (t = true → wp (a L S1) P) ∧ (t = false → wp (b L S1) P)) : wp (eIf ta a b L S) P := by
  unfold eIf; rw [wp_bind]; refine h.mono fun t S1 ⟨h1, h2⟩ => ?_
  cases t with
  | true => first | exact h1 rfl | exact ⟨h1 rfl⟩ | exact (h1 rfl).mono fun _ _ k => ⟨k⟩
  | false => first | exact h2 rfl | exact ⟨h2 rfl⟩ | exact (h2 rfl).mono fun _ _ k => ⟨k⟩
theorem r_eNeg (h : wp (a L S) fun d S1 => ∃ n, d = .int n ∧ P (.int (-n)) S1) : wp (eNeg a L S) P := by
  unfold eNeg; rw [wp_bind]; refine h.mono fun d S1 ⟨t, e, h1⟩ => ?_
  subst e; first | exact h1 | exact ⟨h1⟩ | exact (h1).mono fun _ _ k => ⟨k⟩
theorem r_aNil (k : PL [] S) : wp (aNil L S) PL := ⟨k⟩
theorem r_aCons (h : wp (m L S) fun d S1 => wp (mr L S1) fun ds S2 => PL (d :: ds) S2) : wp (aCons m mr L S) PL := by
  unfold aCons; rw [wp_bind]; refine h.mono fun x S1 h => ?_; rw [wp_bind]; first | exact h | exact ⟨h⟩ | exact (h).mono fun _ _ k => ⟨k⟩
theorem r_eTup (h : wp (ma L S) fun ds S1 => ds.length ≤ sizeLine ∧ P (.tup ds) S1) : wp (eTup ma L S) P := by
  unfold eTup; rw [wp_bind]; refine h.mono fun x S1 ⟨h1, h2⟩ => ?_; rw [if_pos h1]; first | exact h2 | exact ⟨h2⟩ | exact (h2).mono fun _ _ k => ⟨k⟩
theorem r_fLst (h : wp (ma L S) fun ds S1 => ds.length ≤ sizeLine ∧ PL ds S1) : wp (fLst ma L S) PL := by
  unfold fLst; rw [wp_bind]; refine h.mono fun x S1 ⟨h1, h2⟩ => ?_; rw [if_pos h1]; first | exact h2 | exact ⟨h2⟩ | exact (h2).mono fun _ _ k => ⟨k⟩
theorem r_eFz (h : wp (ma L S) fun ds S1 => P (.lst ds) S1) : wp (eFz ma L S) P := by
  unfold eFz; rw [wp_bind]; first | exact h | exact ⟨h⟩ | exact (h).mono fun _ _ k => ⟨k⟩
theorem r_eNw (h : wp (ma L S) fun ds S1 => P (.obj S1.length) (S1 ++ [.lst ds])) : wp (eNw ma L S) P := by
  unfold eNw; rw [wp_bind]; first | exact h | exact ⟨h⟩ | exact (h).mono fun _ _ k => ⟨k⟩
theorem r_eCall {o : List D → Option D} (h : wp (ma L S) fun ds S1 => ∃ z, o (ds.map (deref S1)) = some z ∧ P z S1) : wp (eCall o ma L S) P := by
  unfold eCall; rw [wp_bind]; exact h.mono fun ds S1 h => r_lift h
theorem r_fCall {o : List D → Option (List D)} (h : wp (ma L S) fun ds S1 => ∃ z, o (ds.map (deref S1)) = some z ∧ PL z S1) : wp (fCall o ma L S) PL := by
  unfold fCall; rw [wp_bind]; exact h.mono fun ds S1 h => r_lift h
theorem r_eFn {f : Fn} (h : wp (ma L S) fun ds S1 => wp (f ds S1) P) : wp (eFn f ma L S) P := by
  unfold eFn; rw [wp_bind]; first | exact h | exact ⟨h⟩ | exact (h).mono fun _ _ k => ⟨k⟩
theorem r_eM1 {o : List Nat → D → Option D} (h : wp (a L S) fun d S1 => ∃ x, d = .str x ∧ wp (b L S1) fun e S2 => ∃ z, o x (deref S2 e) = some z ∧ P z S2) : wp (eM1 o a b L S) P := by
  unfold eM1; rw [wp_bind]; refine h.mono fun d S1 ⟨t, e, h1⟩ => ?_
  subst e; dsimp only; rw [wp_bind]; exact h1.mono fun _ _ h => r_lift h
theorem r_eM0 {o : D → Option D} (h : wp (a L S) fun d S1 => ∃ z, o d = some z ∧ P z S1) : wp (eM0 o a L S) P := by
  unfold eM0; rw [wp_bind]; exact h.mono fun _ _ h => r_lift h
theorem r_oNo (k : PO none S) : wp (oNo L S) PO := ⟨k⟩
def optO : D → Option (Option Int)
  | .int i => some (some i)
  | .non => some none
  | _ => none
theorem r_oSo (h : wp (m L S) fun d S1 => ∃ o, optO d = some o ∧ PO o S1) : wp (oSo m L S) PO := by
  unfold oSo; rw [wp_bind]; refine h.mono fun d S1 ⟨t, e, h1⟩ => ?_
  unfold optO at e
  split at e <;> cases e <;> exact ⟨h1⟩
theorem r_eSl {ml mh : Ls → Sto → R (Option Int)} (h : wp (a L S) fun d S1 => wp (ml L S1) fun lo S2 => wp (mh L S2) fun hi S3 => ∃ z, oSl (deref S3 d) lo hi = some z ∧ P z S3) : wp (eSl a ml mh L S) P := by
  unfold eSl; rw [wp_bind]; refine h.mono fun x S1 h => ?_; rw [wp_bind]; refine h.mono fun y S2 h => ?_; rw [wp_bind]; exact h.mono fun _ _ h => r_lift h
theorem r_eInT {ng : Bool} {t : Tb} (h : wp (m L S) fun d S1 => ∃ z, d = .str z ∧ P (.bl (ng != (t.get z).isSome)) S1) : wp (eInT ng t m L S) P := by
  unfold eInT; rw [wp_bind]; refine h.mono fun d S1 ⟨t, e, h1⟩ => ?_
  subst e; first | exact h1 | exact ⟨h1⟩ | exact (h1).mono fun _ _ k => ⟨k⟩
theorem r_eIxT {t : Tb} (h : wp (m L S) fun d S1 => ∃ z, d = .str z ∧ ∃ r, t.get z = some r ∧ P r S1) : wp (eIxT t m L S) P := by
  unfold eIxT; rw [wp_bind]; refine h.mono fun d S1 ⟨t, e, h1⟩ => ?_
  subst e; exact r_lift h1
theorem r_tOfE (h : wp (m L S) fun d S1 => ∃ t, d = .bl t ∧ PB t S1) : wp (tOfE m L S) PB := by
  unfold tOfE; rw [wp_bind]; refine h.mono fun d S1 ⟨t, e, h1⟩ => ?_
  subst e; first | exact h1 | exact ⟨h1⟩ | exact (h1).mono fun _ _ k => ⟨k⟩
theorem r_tTr (h : wp (m L S) fun d S1 => ∃ t, truth (deref S1 d) = some t ∧ PB t S1) : wp (tTr m L S) PB := by
  unfold tTr; rw [wp_bind]; exact h.mono fun _ _ h => r_lift h
theorem r_tNt (h : wp (ta L S) fun t S1 => PB (!t) S1) : wp (tNt ta L S) PB := by
  unfold tNt; rw [wp_bind]; first | exact h | exact ⟨h⟩ | exact (h).mono fun _ _ k => ⟨k⟩
theorem r_tAn (h : wp (ta L S) fun t S1 => (t = true → wp (tb L S1) PB) ∧ (t = false → PB false S1)) : wp (tAn ta tb L S) PB := by
  unfold tAn; rw [wp_bind]; refine h.mono fun t S1 ⟨h1, h2⟩ => ?_
  cases t with
  | true => first | exact h1 rfl | exact ⟨h1 rfl⟩ | exact (h1 rfl).mono fun _ _ k => ⟨k⟩
  | false => first | exact h2 rfl | exact ⟨h2 rfl⟩ | exact (h2 rfl).mono fun _ _ k => ⟨k⟩
theorem r_tOo (h : wp (ta L S) fun t S1 => (t = true → PB true S1) ∧ (t = false → wp (tb L S1) PB)) : wp (tOo ta tb L S) PB := by
  unfold tOo; rw [wp_bind]; refine h.mono fun t S1 ⟨h1, h2⟩ => ?_
  cases t with
  | true => first | exact h1 rfl | exact ⟨h1 rfl⟩ | exact (h1 rfl).mono fun _ _ k => ⟨k⟩
  | false => first | exact h2 rfl | exact ⟨h2 rfl⟩ | exact (h2 rfl).mono fun _ _ k => ⟨k⟩
theorem r_tYs (k : PB true S) : wp (tYs L S) PB := ⟨k⟩
theorem r_iVal (h : wp (m L S) fun d S1 => ∃ s, srcOf S1 d = some s ∧ PR s S1) : wp (iVal m L S) PR := by
  unfold iVal; rw [wp_bind]; exact h.mono fun _ _ h => r_lift h
theorem r_iArS {o : Sto → List D → Option Src} (h : wp (ma L S) fun ds S1 => ∃ s, o S1 ds = some s ∧ PR s S1) : wp (iArS o ma L S) PR := by
  unfold iArS; rw [wp_bind]; exact h.mono fun _ _ h => r_lift h
theorem r_iArgs {o : List D → Option Src} (h : wp (ma L S) fun ds S1 => ∃ s, o ds = some s ∧ PR s S1) : wp (iArgs o ma L S) PR := by
  unfold iArgs; rw [wp_bind]; exact h.mono fun _ _ h => r_lift h
theorem r_fLc {mi : Ls → Sto → R Src} {own : List Nat} {t : Tg} (h : wp (mi L S) fun src S1 => wp (lcLoop src.2 src.1 t ta m (wipeL L own) src.1 S1 []) PL) : wp (fLc mi own t ta m L S) PL := by
  unfold fLc; rw [wp_bind]; first | exact h | exact ⟨h⟩ | exact (h).mono fun _ _ k => ⟨k⟩
theorem q_nil (k : PS .nx L S) : wps (sNil L S) PS := ⟨k⟩
theorem q_brk (k : PS .bk L S) : wps (sBrk L S) PS := ⟨k⟩
theorem q_cnt (k : PS .ct L S) : wps (sCnt L S) PS := ⟨k⟩
theorem q_retN (k : PS (.rt .non) L S) : wps (sRetN L S) PS := ⟨k⟩
theorem q_seq (h : wps (sa L S) fun fl L1 S1 => match fl with
    | .nx => wps (sb L1 S1) PS
    | fl => PS fl L1 S1) : wps (sSeq sa sb L S) PS := by unfold sSeq; rw [wps_seq]; first | exact h | exact ⟨h⟩ | exact (h).mono fun _ _ k => ⟨k⟩
theorem q_ret (h : wp (m L S) fun d S1 => PS (.rt d) L S1) : wps (sRet m L S) PS := by unfold sRet; rw [wps_st]; first | exact h | exact ⟨h⟩ | exact (h).mono fun _ _ k => ⟨k⟩
theorem q_drop (h : wp (m L S) fun d S1 => PS .nx L S1) : wps (sDrop m L S) PS := by unfold sDrop; rw [wps_st]; first | exact h | exact ⟨h⟩ | exact (h).mono fun _ _ k => ⟨k⟩
theorem q_set (h : wp (m L S) fun d S1 => PS .nx (L.set i (.v d)) S1) : wps (sSet i m L S) PS := by unfold sSet; rw [wps_st]; first | exact h | exact ⟨h⟩ | exact (h).mono fun _ _ k => ⟨k⟩
theorem q_own (h : wp (ma L S) fun ds S1 => PS .nx (L.set i (.o (.lst ds))) S1) : wps (sOwn i ma L S) PS := by unfold sOwn; rw [wps_st]; first | exact h | exact ⟨h⟩ | exact (h).mono fun _ _ k => ⟨k⟩
theorem q_frz (h : L[i]? = some (.o (.lst ds))) (k : wps (sa (L.set i (.v (.lst ds))) S) PS) : wps (sFrz i sa L S) PS := by unfold sFrz; rw [h]; first | exact k | exact ⟨k⟩ | exact (k).mono fun _ _ k => ⟨k⟩
theorem q_frzV (h : L[i]? = some (.v d)) (k : wps (sa L S) PS) : wps (sFrz i sa L S) PS := by unfold sFrz; rw [h]; first | exact k | exact ⟨k⟩ | exact (k).mono fun _ _ k => ⟨k⟩
theorem q_tg {t : Tg} (h : wp (m L S) fun d S1 => ∃ L1, tgA t d L = some L1 ∧ PS .nx L1 S1) : wps (sTg t m L S) PS := by
  unfold sTg; rw [wps_st]; refine h.mono fun d S1 ⟨L1, e, h⟩ => ?_; rw [e]; first | exact h | exact ⟨h⟩ | exact (h).mono fun _ _ k => ⟨k⟩
theorem q_par2 (h : wp (ma L S) fun ds S1 => ∃ x y, ds = [x, y] ∧ PS .nx ((L.set i (.v x)).set j (.v y)) S1) : wps (sPar2 i j ma L S) PS := by
  unfold sPar2; rw [wps_st]; refine h.mono fun d S1 ⟨x, y, e, h⟩ => ?_; subst e; first | exact h | exact ⟨h⟩ | exact (h).mono fun _ _ k => ⟨k⟩
theorem q_par3 (h : wp (ma L S) fun ds S1 => ∃ x y z, ds = [x, y, z] ∧ PS .nx (((L.set i (.v x)).set j (.v y)).set l (.v z)) S1) : wps (sPar3 i j l ma L S) PS := by
  unfold sPar3; rw [wps_st]; refine h.mono fun d S1 ⟨x, y, z, e, h⟩ => ?_; subst e; first | exact h | exact ⟨h⟩ | exact (h).mono fun _ _ k => ⟨k⟩
theorem q_if (h : wp (ta L S) fun t S1 => (t = true → wps (sa L S1) PS) ∧ (t = false → wps (sb L S1) PS)) : wps (sIf ta sa sb L S) PS := by
  unfold sIf; rw [wps_st]; refine h.mono fun t S1 ⟨h1, h2⟩ => ?_
  cases t with
  | true => first | exact h1 rfl | exact ⟨h1 rfl⟩ | exact (h1 rfl).mono fun _ _ k => ⟨k⟩
  | false => first | exact h2 rfl | exact ⟨h2 rfl⟩ | exact (h2 rfl).mono fun _ _ k => ⟨k⟩
theorem q_app (h : L[i]? = some (.o (.lst ds))) (k : wp (m L S) fun d S1 => ds.length < sizeLine ∧ PS .nx (L.set i (.o (.lst (ds ++ [d])))) S1) : wps (sApp i m L S) PS := by
  unfold sApp; rw [h]; dsimp only; rw [wps_st]; refine k.mono fun d S1 ⟨h1, h2⟩ => ?_; rw [if_pos h1]; first | exact h2 | exact ⟨h2⟩ | exact (h2).mono fun _ _ k => ⟨k⟩
theorem q_putO (h : wp (c L S) fun d S1 => wp (a L S1) fun o S2 => ∃ n, o = .obj n ∧ wp (b L S2) fun j S3 => ∃ k ds jj, j = .int k ∧ S3[n]? = some (.lst ds) ∧ ixN ds.length k = some jj ∧ PS .nx L (S3.set n (.lst (ds.set jj d)))) : wps (sPutO a b c L S) PS := by
  unfold sPutO; rw [wps_st]; refine h.mono fun d S1 h => ?_; rw [wps_st]; refine h.mono fun o S2 ⟨n, e, h⟩ => ?_
  subst e; dsimp only; rw [wps_st]; refine h.mono fun j S3 ⟨k, ds, jj, e1, e2, e3, h⟩ => ?_
  subst e1; dsimp only; rw [e2]; dsimp only; rw [e3]; first | exact h | exact ⟨h⟩ | exact (h).mono fun _ _ k => ⟨k⟩
theorem q_put (h : wp (b L S) fun d S1 => ∃ ds, L[i]? = some (.o (.lst ds)) ∧ wp (a L S1) fun j S2 => ∃ k jj, j = .int k ∧ ixN ds.length k = some jj ∧ PS .nx (L.set i (.o (.lst (ds.set jj d)))) S2) : wps (sPut i a b L S) PS := by
  unfold sPut; rw [wps_st]; refine h.mono fun d S1 ⟨ds, e, h⟩ => ?_
  rw [e]; dsimp only; rw [wps_st]; refine h.mono fun j S3 ⟨k, jj, e1, e3, h⟩ => ?_
  subst e1; dsimp only; rw [e3]; first | exact h | exact ⟨h⟩ | exact (h).mono fun _ _ k => ⟨k⟩
theorem q_aug {o : D → D → Option D} (h : L[i]? = some (.v d)) (k : wp (m L S) fun y S1 => ∃ z, o (deref S1 d) (deref S1 y) = some z ∧ PS .nx (L.set i (.v z)) S1) : wps (sAug i o m L S) PS := by
  unfold sAug; rw [h]; dsimp only; rw [wps_st]; refine k.mono fun d S1 ⟨z, e, h⟩ => ?_; rw [e]; first | exact h | exact ⟨h⟩ | exact (h).mono fun _ _ k => ⟨k⟩
theorem q_for {mi : Ls → Sto → R Src} {t : Tg} (h : wp (mi L S) fun src S1 => wps (forL src.2 src.1 t sa src.1 L S1) PS) : wps (sFor mi t sa L S) PS := by
  unfold sFor; rw [wps_st]; first | exact h | exact ⟨h⟩ | exact (h).mono fun _ _ k => ⟨k⟩
theorem q_fn {n np : Nat} {P : D → Sto → Prop} {ds : List D} (hl : ds.length = np) (h : wps (sa (ds.map .v ++ List.replicate (n - np) .un) S) fun fl _ S1 => match fl with
    | .nx => P .non S1
    | .rt d => P d S1
    | _ => False) : wp (fnSem n np sa ds S) P := by
  unfold fnSem; rw [if_pos hl]; exact wp_end h
end
noncomputable def m_draw1 : SM := sSeq (sPutO (eVar 0) (eC (.int 1)) (eBin oAdd (eBin oIx (pVar 0) (eC (.int 1))) (eC (.int 1)))) (sSeq (sSet 2 (eBin oMod (eCall bInt (aCons (eBin oIx (pVar 0) (eC (.int 1))) (aNil))) (eCall bMax2 (aCons (eC (.int 1)) (aCons (eCall bLen (aCons (eBin oIx (pVar 0) (eC (.int 0))) (aNil))) (aNil)))))) (sSeq (sSet 3 (eBin oIx (eBin oAdd (eBin oIx (pVar 0) (eC (.int 0))) (eFz (fLst (aCons (eC (.int 0)) (aNil))))) (pVar 2))) (sSeq (sIf (tOfE (eBin cGe (pVar 3) (eBin oPow (eC (.int 10)) (eC (.int 18))))) (sSeq (sPutO (eBin oIx (pVar 0) (eC (.int 0))) (eVar 2) (eBin oFdiv (pVar 3) (pVar 1))) (sSeq (sRet (eBin oMod (eCall bInt (aCons (pVar 3) (aNil))) (pVar 1))) (sNil))) (sNil)) (sSeq (sSet 4 (eBin oPow (eBin oAdd (eBin oAdd (eBin oMod (eCall bInt (aCons (pVar 3) (aNil))) (eC (.int 2147483587))) (eBin oMul (eC (.int 7919)) (eBin oIx (pVar 0) (eC (.int 1))))) (eC (.int 1))) (eC (.int 5)))) (sSeq (sRet (eBin oMod (eCall bInt (aCons (eBin oMod (eCall bInt (aCons (pVar 4) (aNil))) (eC (.int 2147483647))) (aNil))) (pVar 1))) (sNil))))))
noncomputable def c_draw1 : Fn := fnSem 5 2 m_draw1
theorem atI_some {α : Type} {xs : List α} {i : Nat} {a : α} (h : xs[i]? = some a) : L2.atI xs (i : Int) = some a := by
  unfold L2.atI ixN
  have hl : i < xs.length := (List.getElem?_eq_some_iff.mp h).1
  rw [if_pos (Int.natCast_nonneg i), if_pos (by omega)]
  exact h
theorem r_dec {p : Prop} [Decidable p] {A B : Prop} (h1 : p → A) (h2 : ¬ p → B) : (decide p = true → A) ∧ (decide p = false → B) := ⟨fun h => h1 (of_decide_eq_true h), fun h => h2 (of_decide_eq_false h)⟩
theorem r_isT {t : Bool} {A B : Prop} (h : t = true) (k : A) : (t = true → A) ∧ (t = false → B) := ⟨fun _ => k, fun z => Bool.noConfusion (h.symm.trans z)⟩
theorem r_isF {t : Bool} {A B : Prop} (h : t = false) (k : B) : (t = true → A) ∧ (t = false → B) := ⟨fun z => Bool.noConfusion (h.symm.trans z), fun _ => k⟩
theorem x_addi {a b : Int} : oAdd (.int a) (.int b) = some (.int (a + b)) := rfl
theorem x_adds {a b : List Nat} (h : a.length + b.length ≤ sizeLine) : oAdd (.str a) (.str b) = some (.str (a ++ b)) := if_pos h
theorem x_addt {a b : List D} (h : a.length + b.length ≤ sizeLine) : oAdd (.tup a) (.tup b) = some (.tup (a ++ b)) := if_pos h
theorem x_addl {a b : List D} (h : a.length + b.length ≤ sizeLine) : oAdd (.lst a) (.lst b) = some (.lst (a ++ b)) := if_pos h
theorem x_subi {a b : Int} : oSub (.int a) (.int b) = some (.int (a - b)) := rfl
theorem x_muli {a b : Int} (h : a.natAbs.log2 + b.natAbs.log2 < 1000000) : oMul (.int a) (.int b) = some (.int (a * b)) := if_pos h
theorem x_div {a b : Int} (h : 0 < b ∧ b.natAbs.log2 < 9000) : oFdiv (.int a) (.int b) = some (.int (a / b)) := if_pos h
theorem x_mod {a b : Int} (h : 0 < b) : oMod (.int a) (.int b) = some (.int (a % b)) := if_pos h
theorem x_pow {a b : Int} (h : 0 ≤ b ∧ b ≤ 1000000 ∧ a.natAbs < 2 ^ 64) : oPow (.int a) (.int b) = some (.int (a ^ b.toNat)) := if_pos h
theorem x_eqi {a b : Int} : cEq (.int a) (.int b) = some (.bl (decide (a = b))) := rfl
theorem x_nei {a b : Int} : cNe (.int a) (.int b) = some (.bl (decide (a ≠ b))) := by
  by_cases h : a = b
  · subst h; simp [cNe, eqB, flatEq]
  · simp [cNe, eqB, flatEq, h]
theorem x_lti {a b : Int} : cLt (.int a) (.int b) = some (.bl (decide (a < b))) := rfl
theorem x_lei {a b : Int} : cLe (.int a) (.int b) = some (.bl (decide (a ≤ b))) := rfl
theorem x_gti {a b : Int} : cGt (.int a) (.int b) = some (.bl (decide (b < a))) := rfl
theorem x_gei {a b : Int} : cGe (.int a) (.int b) = some (.bl (decide (b ≤ a))) := rfl
theorem x_eqs {a b : List Nat} : cEq (.str a) (.str b) = some (.bl (decide (a = b))) := by
  by_cases h : a = b
  · subst h; simp [cEq, eqB, flatEq]
  · simp [cEq, eqB, flatEq, h]
theorem x_nes {a b : List Nat} : cNe (.str a) (.str b) = some (.bl (decide (a ≠ b))) := by
  by_cases h : a = b
  · subst h; simp [cNe, eqB, flatEq]
  · simp [cNe, eqB, flatEq, h]
local macro_rules | `(tactic| walk_at "rf") => `(tactic| first
  | with_reducible refine q_seq ?_ | with_reducible refine q_nil ?_ | with_reducible refine q_set ?_ | with_reducible refine q_ret ?_ | with_reducible refine q_if ?_ | with_reducible refine q_retN ?_ | with_reducible refine q_drop ?_ | with_reducible refine q_tg ?_ | with_reducible refine q_par2 ?_ | with_reducible refine q_par3 ?_ | with_reducible refine q_own ?_ | ((with_reducible apply q_frz); exact rfl) | ((with_reducible apply q_frzV); exact rfl) | ((with_reducible apply q_app); exact rfl) | with_reducible refine q_putO ?_ | with_reducible refine q_put ?_ | ((with_reducible apply q_aug); exact rfl) | with_reducible refine q_brk ?_ | with_reducible refine q_cnt ?_
  | ((with_reducible apply r_pVar); exact rfl) | ((with_reducible apply r_eVar); exact rfl) | ((with_reducible apply r_pOwn); exact rfl) | with_reducible refine r_eC ?_ | with_reducible refine r_eBin ?_ | with_reducible refine r_eCall ?_ | with_reducible refine r_aCons ?_ | with_reducible refine r_aNil ?_ | with_reducible refine r_eFn ?_ | with_reducible refine r_tOfE ?_ | with_reducible refine r_tTr ?_ | with_reducible refine r_tNt ?_ | with_reducible refine r_tAn ?_ | with_reducible refine r_tOo ?_ | with_reducible refine r_tYs ?_
  | with_reducible refine r_eTup ?_ | with_reducible refine r_fLst ?_ | with_reducible refine r_eFz ?_ | with_reducible refine r_eNw ?_ | with_reducible refine r_eIf ?_ | with_reducible refine r_eAn ?_ | with_reducible refine r_eOo ?_ | with_reducible refine r_eNt ?_ | with_reducible refine r_eNeg ?_ | with_reducible refine r_eCh ?_ | with_reducible refine r_eSl ?_ | with_reducible refine r_oNo ?_ | with_reducible refine r_oSo ?_ | with_reducible refine r_eM0 ?_ | with_reducible refine r_eM1 ?_ | with_reducible refine r_eInT ?_ | with_reducible refine r_eIxT ?_ | with_reducible refine r_fCall ?_
  | with_reducible refine r_ok ?_ | with_reducible refine r_okL ?_ 
  | with_reducible refine ⟨_, x_addi, ?_⟩ | with_reducible refine ⟨_, x_subi, ?_⟩ | with_reducible refine ⟨_, x_eqi, ?_⟩ | with_reducible refine ⟨_, x_lti, ?_⟩ | with_reducible refine ⟨_, x_lei, ?_⟩ | with_reducible refine ⟨_, x_gti, ?_⟩ | with_reducible refine ⟨_, x_gei, ?_⟩ | with_reducible refine ⟨_, x_nei, ?_⟩ | with_reducible refine ⟨_, x_eqs, ?_⟩ | with_reducible refine ⟨_, x_nes, ?_⟩
  | with_reducible refine ⟨_, x_muli (by first | assumption | decide), ?_⟩ | with_reducible refine ⟨_, x_mod (by first | assumption | decide | omega), ?_⟩ | with_reducible refine ⟨_, x_pow (by first | assumption | decide), ?_⟩ | with_reducible refine ⟨_, x_div (by first | assumption | decide), ?_⟩
  | (fail_if_success (with_reducible refine ⟨_, x_muli ?_, ?_⟩)
     fail_if_success (with_reducible refine ⟨_, x_mod ?_, ?_⟩)
     fail_if_success (with_reducible refine ⟨_, x_pow ?_, ?_⟩)
     fail_if_success (with_reducible refine ⟨_, x_div ?_, ?_⟩)
     fail_if_success (with_reducible refine ⟨_, x_adds ?_, ?_⟩)
     fail_if_success (with_reducible refine ⟨_, x_addt ?_, ?_⟩)
     fail_if_success (with_reducible refine ⟨_, x_addl ?_, ?_⟩)
     (with_reducible apply Exists.intro)
     (repeat (with_reducible apply Exists.intro))
     refine And.intro rfl ?_)
  | ((with_reducible refine And.intro ?_ ?_); exact rfl)
  | ((with_reducible refine And.intro ?_ ?_); exact Nat.le_of_ble_eq_true rfl))
theorem draw1 {T S : Sto} {n : Nat} {many : Int} (h : Deck T (n + 1) S) (h0 : 0 < many) (hm : many.natAbs.log2 < 9000) : ∃ (r : Int) (S' : Sto), c_draw1 [.obj 1, .int many] S = .ok (.int r) S' ∧ 0 ≤ r ∧ r < many ∧ Deck T n S' := by
  obtain ⟨cs, c, rfl, hcs, hc, hcn, hlen⟩ := h
  have hlz : cs.length ≤ sizeLine := Nat.le_trans hlen (by decide)
  -- the place and the cell
  obtain ⟨p, hp⟩ : ∃ p : Nat, (p : Int) = (c + 1) % (if (cs.length : Int) > 1 then (cs.length : Int) else 1) := by
    have : 0 ≤ (c + 1) % (if (cs.length : Int) > 1 then (cs.length : Int) else 1) := Int.emod_nonneg _ (by split <;> omega)
    exact ⟨((c + 1) % (if (cs.length : Int) > 1 then (cs.length : Int) else 1)).toNat, by omega⟩
  have hp2 : (p : Int) < (if (cs.length : Int) > 1 then (cs.length : Int) else 1) := by
    rw [hp]; exact Int.emod_lt_of_pos _ (by split <;> omega)
  have hpl : p < cs.length + 1 := by split at hp2 <;> omega
  obtain ⟨x, hx⟩ : ∃ x : Int, (cs ++ [0])[p]? = some x := ⟨_, List.getElem?_eq_getElem (by rw [List.length_append, List.length_singleton]; exact hpl)⟩
  have hx0 : 0 ≤ x := by
    have := List.mem_of_getElem? hx
    rcases List.mem_append.mp this with z | z
    · exact hcs x z
    · rw [List.mem_singleton.mp z]; exact Int.le_refl _
  have hxD : (cs.map D.int ++ [D.int 0])[p]? = some (.int x) := by
    have : cs.map D.int ++ [D.int 0] = (cs ++ [0]).map D.int := by rw [List.map_append]; rfl
    rw [this, List.getElem?_map, hx]; rfl
  have hix := atI_some hxD
  have h18 : (0:Int) < 10 ^ 18 := by decide
  suffices h : wp (c_draw1 [.obj 1, .int many] (.lst (cs.map .int) :: .lst [.obj 0, .int c] :: T)) fun d S' => ∃ r, d = .int r ∧ 0 ≤ r ∧ r < many ∧ Deck T n S' by
    obtain ⟨d, S', e, r, rfl, h⟩ := h.ex
    exact ⟨r, S', e, h⟩
  unfold c_draw1
  refine q_fn rfl ?_
  unfold m_draw1
  have hlm : (cs.map D.int).length = cs.length := List.length_map _
  rw [← hlm] at hp hp2
  repeat walk_at "rf"
  refine ⟨.lst (cs.map D.int ++ [D.int 0]), if_pos (by
    show (cs.map D.int).length + 1 ≤ sizeLine
    rw [List.length_map]
    have : 64 ≤ sizeLine := by decide
    omega), ?_⟩
  repeat walk_at "rf"
  refine ⟨.int x, by rw [← hp]; exact hix, ?_⟩
  repeat walk_at "rf"
  refine ⟨fun ht => ?_, fun ht => ?_⟩
  · have hge : (10:Int) ^ 18 ≤ x := of_decide_eq_true ht
    have hp3 : p < cs.length := by
      rcases Nat.lt_or_ge p cs.length with z | z
      · exact z
      · rw [List.getElem?_append_right z] at hx
        have : p - cs.length = 0 := by omega
        rw [this] at hx
        cases hx
        omega
    have hdv : 0 < many ∧ many.natAbs.log2 < 9000 := ⟨h0, hm⟩
    repeat walk_at "rf"
    have hix2 : ixN (cs.map D.int).length ((c + 1) % (if ((cs.map D.int).length : Int) > 1 then ((cs.map D.int).length : Int) else 1)) = some p := by
      unfold ixN
      rw [← hp, if_pos (Int.natCast_nonneg p), if_pos (by rw [List.length_map]; omega)]
      rfl
    refine ⟨hix2, ?_⟩
    repeat walk_at "rf"
    refine ⟨Int.emod_nonneg _ (by omega), Int.emod_lt_of_pos _ h0, ?_⟩
    refine ⟨cs.set p (x / many), c + 1, ?_, fun y hy => ?_, by omega, by omega, by rw [List.length_set]; exact hlen⟩
    · rw [List.map_set]; rfl
    · rcases List.mem_or_eq_of_mem_set hy with z | z
      · exact hcs y z
      · rw [z]; exact Int.ediv_nonneg hx0 (by omega)
  · have hm0 : 0 ≤ x % 2147483587 := Int.emod_nonneg _ (by decide)
    have hm1 : x % 2147483587 < 2147483587 := Int.emod_lt_of_pos _ (by decide)
    have hb : (0:Int) ≤ 5 ∧ (5:Int) ≤ 1000000 ∧ (x % 2147483587 + 7919 * (c + 1) + 1).natAbs < 2 ^ 64 := ⟨by decide, by decide, by omega⟩
    have hl : (7919 : Int).natAbs.log2 + (c + 1).natAbs.log2 < 1000000 := by
      have h1 : (c + 1).natAbs < 2 ^ 41 := by omega
      have h2 : (c + 1).natAbs.log2 < 41 := (Nat.log2_lt (by omega)).mpr h1
      have h3 : (7919 : Int).natAbs.log2 = 12 := by decide
      omega
    repeat walk_at "rf"
    exact ⟨Int.emod_nonneg _ (by omega), Int.emod_lt_of_pos _ h0, cs, c + 1, rfl, hcs, by omega, by omega, hlen⟩
noncomputable def m_one : SM := sSeq (sRet (eBin oIx (pVar 1) (eFn c_draw1 (aCons (eVar 0) (aCons (eCall bLen (aCons (pVar 1) (aNil))) (aNil)))))) (sNil)
noncomputable def c_one : Fn := fnSem 2 2 m_one
section
variable {T S : Sto} {n : Nat} {P : D → Sto → Prop}
theorem w_draw {many : Int} (h : Deck T (n + 1) S) (h0 : 0 < many) (hm : many.natAbs.log2 < 9000) (k : ∀ (r : Int) (S' : Sto), 0 ≤ r → r < many → Deck T n S' → P (.int r) S') : wp (c_draw1 [.obj 1, .int many] S) P := by
  obtain ⟨r, S', e, h1, h2, h3⟩ := draw1 h h0 hm
  rw [e]
  exact ⟨k r S' h1 h2 h3⟩
theorem w_one {xs : List D} (h : Deck T (n + 1) S) (h0 : xs ≠ []) (hz : xs.length < 2 ^ 40) (k : ∀ (x : D) (S' : Sto), x ∈ xs → Deck T n S' → P x S') : wp (c_one [.obj 1, .lst xs] S) P := by
  unfold c_one
  refine q_fn rfl ?_
  unfold m_one
  have hl : 0 < xs.length := List.length_pos_iff.mpr h0
  repeat walk_at "rf"
  refine w_draw h (by omega) ?_ fun r S' h1 h2 h3 => ?_
  · have : ((xs.length : Int)).natAbs = xs.length := rfl
    rw [this]
    have := (Nat.log2_lt (by omega)).mpr hz
    omega
  · obtain ⟨j, rfl⟩ := Int.eq_ofNat_of_zero_le h1
    have hj : j < xs.length := by omega
    refine ⟨xs[j], atI_some (List.getElem?_eq_getElem hj), ?_⟩
    exact k _ _ (List.getElem_mem hj) h3
end
theorem lg {n k : Nat} (h : n < 2 ^ k) (hk : 0 < k) : n.log2 < k := by
  by_cases z : n = 0
  · rw [z]; exact hk
  · exact (Nat.log2_lt z).mpr h
theorem lgi {i : Int} {k : Nat} (h : i.natAbs < 2 ^ k) (hk : 0 < k) : i.natAbs.log2 < k := lg h hk
end Rf
set_option Elab.async false
set_option linter.all false
set_option maxRecDepth 100000
set_option maxHeartbeats 0
namespace Rf
open PySem L2 TL
class Wp [xp : ExP] {α : Type} (m : R α) (P : α → Sto → Prop) (G : outParam Prop) : Prop where
  imp : G → wp m P
class Ws [xp : ExP] (m : RS) (P : Fl → Ls → Sto → Prop) (G : outParam Prop) : Prop where
  imp : G → wps m P
/-- an operation at known kinds -/
class Op (e : Option D) (z : outParam D) : Prop where
  eq : e = some z
/-- .. under a condition -/
class Og (e : Option D) (z : outParam D) (c : outParam Prop) : Prop where
  eq : c → e = some z
variable {xp : ExP}
section
variable {P : D → Sto → Prop} {PL : List D → Sto → Prop} {PB : Bool → Sto → Prop} {PO : Option Int → Sto → Prop} {PS : Fl → Ls → Sto → Prop} {PR : Src → Sto → Prop} {L : Ls} {S : Sto} {i j l : Nat} {d : D} {ds : List D} {a b c m : EM} {ma mr : Ls → Sto → R (List D)} {ta tb : Ls → Sto → R Bool} {sa sb : SM}
  {o o' : D → D → Option D} {oL : List D → Option D} {oF : List D → Option (List D)} {f : Fn} {o1 : List Nat → D → Option D} {o0 : D → Option D} {ml mh : Ls → Sto → R (Option Int)} {ng : Bool} {t : Tb} {tg : Tg} {own : List Nat} {mi : Ls → Sto → R Src} {oS : List D → Option Src}
theorem v_pVar (h : ∃ v, L[i]? = some v ∧ match v with
    | .v d => P d S
    | .o (.lst ds) => P (.lst ds) S
    | _ => False) : wp (pVar i L S) P := by
  obtain ⟨v, e, h⟩ := h
  cases v with
  | v d => exact r_pVar e h
  | o u => cases u with
    | lst ds => exact r_pOwn e h
    | _ => exact h.elim
  | un => exact h.elim
  | exc x => exact h.elim
theorem v_eVar (h : ∃ d, L[i]? = some (.v d) ∧ P d S) : wp (eVar i L S) P := by obtain ⟨d, e, h⟩ := h; exact r_eVar e h
theorem v_frz (h : ∃ v, L[i]? = some v ∧ match v with
    | .v _ => wps (sa L S) PS
    | .o (.lst ds) => wps (sa (L.set i (.v (.lst ds))) S) PS
    | _ => False) : wps (sFrz i sa L S) PS := by
  obtain ⟨v, e, h⟩ := h
  cases v with
  | v d => exact q_frzV e h
  | o u => cases u with
    | lst ds => exact q_frz e h
    | _ => exact h.elim
  | un => exact h.elim
  | exc x => exact h.elim
theorem v_app (h : ∃ ds, L[i]? = some (.o (.lst ds)) ∧ wp (m L S) fun d S1 => ds.length < sizeLine ∧ PS .nx (L.set i (.o (.lst (ds ++ [d])))) S1) : wps (sApp i m L S) PS := by obtain ⟨d, e, h⟩ := h; exact q_app e h
theorem v_aug (h : ∃ d, L[i]? = some (.v d) ∧ wp (m L S) fun y S1 => ∃ z, o (deref S1 d) (deref S1 y) = some z ∧ PS .nx (L.set i (.v z)) S1) : wps (sAug i o m L S) PS := by obtain ⟨d, e, h⟩ := h; exact q_aug e h
instance : Wp (eVar i L S) P (∃ d, L[i]? = some (.v d) ∧ P d S) := ⟨v_eVar⟩
instance : Wp (pVar i L S) P (∃ v, L[i]? = some v ∧ match v with
    | .v d => P d S
    | .o (.lst ds) => P (.lst ds) S
    | _ => False) := ⟨v_pVar⟩
instance : Wp (.ok d S) P (P d S) := ⟨r_ok⟩
instance : Wp (.ok ds S) PL (PL ds S) := ⟨r_okL⟩
instance : Wp (eC d L S) P (P d S) := ⟨r_eC⟩
instance {o : D → D → Option D} : Wp (eBin o a b L S) P (wp (a L S) fun x S1 => wp (b L S1) fun y S2 => ∃ z, o (deref S2 x) (deref S2 y) = some z ∧ P z S2) := ⟨r_eBin⟩
instance {o o' : D → D → Option D} : Wp (eCh o o' a b c L S) P (wp (a L S) fun x S1 => wp (b L S1) fun y S2 => ∃ t, o (deref S2 x) (deref S2 y) = some (.bl t) ∧ (t = true → wp (c L S2) fun z S3 => ∃ w, o' (deref S3 y) (deref S3 z) = some w ∧ P w S3) ∧ (t = false → P (.bl false) S2)) := ⟨r_eCh⟩
instance : Wp (eAn a b L S) P (wp (a L S) fun d S1 => ∃ t, d = .bl t ∧ (t = true → wp (b L S1) P) ∧ (t = false → P (.bl false) S1)) := ⟨r_eAn⟩
instance : Wp (eOo a b L S) P (wp (a L S) fun d S1 => ∃ t, d = .bl t ∧ (t = true → P (.bl true) S1) ∧ (t = false → wp (b L S1) P)) := ⟨r_eOo⟩
instance : Wp (eNt a L S) P (wp (a L S) fun d S1 => ∃ t, d = .bl t ∧ P (.bl (!t)) S1) := ⟨r_eNt⟩
instance : Wp (eIf ta a b L S) P (wp (ta L S) fun t S1 => (t = true → wp (a L S1) P) ∧ (t = false → wp (b L S1) P)) := ⟨r_eIf⟩
instance : Wp (eNeg a L S) P (wp (a L S) fun d S1 => ∃ n, d = .int n ∧ P (.int (-n)) S1) := ⟨r_eNeg⟩
instance : Wp (aNil L S) PL (PL [] S) := ⟨r_aNil⟩
instance : Wp (aCons m mr L S) PL (wp (m L S) fun d S1 => wp (mr L S1) fun ds S2 => PL (d :: ds) S2) := ⟨r_aCons⟩
instance : Wp (eTup ma L S) P (wp (ma L S) fun ds S1 => ds.length ≤ sizeLine ∧ P (.tup ds) S1) := ⟨r_eTup⟩
instance : Wp (fLst ma L S) PL (wp (ma L S) fun ds S1 => ds.length ≤ sizeLine ∧ PL ds S1) := ⟨r_fLst⟩
instance : Wp (eFz ma L S) P (wp (ma L S) fun ds S1 => P (.lst ds) S1) := ⟨r_eFz⟩
instance : Wp (eNw ma L S) P (wp (ma L S) fun ds S1 => P (.obj S1.length) (S1 ++ [.lst ds])) := ⟨r_eNw⟩
instance {o : List D → Option D} : Wp (eCall o ma L S) P (wp (ma L S) fun ds S1 => ∃ z, o (ds.map (deref S1)) = some z ∧ P z S1) := ⟨r_eCall⟩
instance {o : List D → Option (List D)} : Wp (fCall o ma L S) PL (wp (ma L S) fun ds S1 => ∃ z, o (ds.map (deref S1)) = some z ∧ PL z S1) := ⟨r_fCall⟩
instance {f : Fn} : Wp (eFn f ma L S) P (wp (ma L S) fun ds S1 => wp (f ds S1) P) := ⟨r_eFn⟩
instance {o : List Nat → D → Option D} : Wp (eM1 o a b L S) P (wp (a L S) fun d S1 => ∃ x, d = .str x ∧ wp (b L S1) fun e S2 => ∃ z, o x (deref S2 e) = some z ∧ P z S2) := ⟨r_eM1⟩
instance {o : D → Option D} : Wp (eM0 o a L S) P (wp (a L S) fun d S1 => ∃ z, o d = some z ∧ P z S1) := ⟨r_eM0⟩
instance : Wp (oNo L S) PO (PO none S) := ⟨r_oNo⟩
instance : Wp (oSo m L S) PO (wp (m L S) fun d S1 => ∃ o, optO d = some o ∧ PO o S1) := ⟨r_oSo⟩
instance {ml mh : Ls → Sto → R (Option Int)} : Wp (eSl a ml mh L S) P (wp (a L S) fun d S1 => wp (ml L S1) fun lo S2 => wp (mh L S2) fun hi S3 => ∃ z, oSl (deref S3 d) lo hi = some z ∧ P z S3) := ⟨r_eSl⟩
instance {ng : Bool} {t : Tb} : Wp (eInT ng t m L S) P (wp (m L S) fun d S1 => ∃ z, d = .str z ∧ P (.bl (ng != (t.get z).isSome)) S1) := ⟨r_eInT⟩
instance {t : Tb} : Wp (eIxT t m L S) P (wp (m L S) fun d S1 => ∃ z, d = .str z ∧ ∃ r, t.get z = some r ∧ P r S1) := ⟨r_eIxT⟩
instance : Wp (tOfE m L S) PB (wp (m L S) fun d S1 => ∃ t, d = .bl t ∧ PB t S1) := ⟨r_tOfE⟩
instance : Wp (tTr m L S) PB (wp (m L S) fun d S1 => ∃ t, truth (deref S1 d) = some t ∧ PB t S1) := ⟨r_tTr⟩
instance : Wp (tNt ta L S) PB (wp (ta L S) fun t S1 => PB (!t) S1) := ⟨r_tNt⟩
instance : Wp (tAn ta tb L S) PB (wp (ta L S) fun t S1 => (t = true → wp (tb L S1) PB) ∧ (t = false → PB false S1)) := ⟨r_tAn⟩
instance : Wp (tOo ta tb L S) PB (wp (ta L S) fun t S1 => (t = true → PB true S1) ∧ (t = false → wp (tb L S1) PB)) := ⟨r_tOo⟩
instance : Wp (tYs L S) PB (PB true S) := ⟨r_tYs⟩
instance : Wp (iVal m L S) PR (wp (m L S) fun d S1 => ∃ s, srcOf S1 d = some s ∧ PR s S1) := ⟨r_iVal⟩
instance {o : Sto → List D → Option Src} : Wp (iArS o ma L S) PR (wp (ma L S) fun ds S1 => ∃ s, o S1 ds = some s ∧ PR s S1) := ⟨r_iArS⟩
instance {o : List D → Option Src} : Wp (iArgs o ma L S) PR (wp (ma L S) fun ds S1 => ∃ s, o ds = some s ∧ PR s S1) := ⟨r_iArgs⟩
instance {mi : Ls → Sto → R Src} {own : List Nat} {t : Tg} : Wp (fLc mi own t ta m L S) PL (wp (mi L S) fun src S1 => wp (lcLoop src.2 src.1 t ta m (wipeL L own) src.1 S1 []) PL) := ⟨r_fLc⟩
instance : Ws (sNil L S) PS (PS .nx L S) := ⟨q_nil⟩
instance : Ws (sBrk L S) PS (PS .bk L S) := ⟨q_brk⟩
instance : Ws (sCnt L S) PS (PS .ct L S) := ⟨q_cnt⟩
instance : Ws (sRetN L S) PS (PS (.rt .non) L S) := ⟨q_retN⟩
instance : Ws (sSeq sa sb L S) PS (wps (sa L S) fun fl L1 S1 => match fl with
    | .nx => wps (sb L1 S1) PS
    | fl => PS fl L1 S1) := ⟨q_seq⟩
instance : Ws (sRet m L S) PS (wp (m L S) fun d S1 => PS (.rt d) L S1) := ⟨q_ret⟩
instance : Ws (sDrop m L S) PS (wp (m L S) fun d S1 => PS .nx L S1) := ⟨q_drop⟩
instance : Ws (sSet i m L S) PS (wp (m L S) fun d S1 => PS .nx (L.set i (.v d)) S1) := ⟨q_set⟩
instance : Ws (sOwn i ma L S) PS (wp (ma L S) fun ds S1 => PS .nx (L.set i (.o (.lst ds))) S1) := ⟨q_own⟩
instance : Ws (sFrz i sa L S) PS (∃ v, L[i]? = some v ∧ match v with
    | .v _ => wps (sa L S) PS
    | .o (.lst ds) => wps (sa (L.set i (.v (.lst ds))) S) PS
    | _ => False) := ⟨v_frz⟩
instance {t : Tg} : Ws (sTg t m L S) PS (wp (m L S) fun d S1 => ∃ L1, tgA t d L = some L1 ∧ PS .nx L1 S1) := ⟨q_tg⟩
instance : Ws (sPar2 i j ma L S) PS (wp (ma L S) fun ds S1 => ∃ x y, ds = [x, y] ∧ PS .nx ((L.set i (.v x)).set j (.v y)) S1) := ⟨q_par2⟩
instance : Ws (sPar3 i j l ma L S) PS (wp (ma L S) fun ds S1 => ∃ x y z, ds = [x, y, z] ∧ PS .nx (((L.set i (.v x)).set j (.v y)).set l (.v z)) S1) := ⟨q_par3⟩
instance : Ws (sIf ta sa sb L S) PS (wp (ta L S) fun t S1 => (t = true → wps (sa L S1) PS) ∧ (t = false → wps (sb L S1) PS)) := ⟨q_if⟩
instance : Ws (sApp i m L S) PS (∃ ds, L[i]? = some (.o (.lst ds)) ∧ wp (m L S) fun d S1 => ds.length < sizeLine ∧ PS .nx (L.set i (.o (.lst (ds ++ [d])))) S1) := ⟨v_app⟩
instance : Ws (sPutO a b c L S) PS (wp (c L S) fun d S1 => wp (a L S1) fun o S2 => ∃ n, o = .obj n ∧ wp (b L S2) fun j S3 => ∃ k ds jj, j = .int k ∧ S3[n]? = some (.lst ds) ∧ ixN ds.length k = some jj ∧ PS .nx L (S3.set n (.lst (ds.set jj d)))) := ⟨q_putO⟩
instance : Ws (sPut i a b L S) PS (wp (b L S) fun d S1 => ∃ ds, L[i]? = some (.o (.lst ds)) ∧ wp (a L S1) fun j S2 => ∃ k jj, j = .int k ∧ ixN ds.length k = some jj ∧ PS .nx (L.set i (.o (.lst (ds.set jj d)))) S2) := ⟨q_put⟩
instance : Ws (sAug i o m L S) PS (∃ d, L[i]? = some (.v d) ∧ wp (m L S) fun y S1 => ∃ z, o (deref S1 d) (deref S1 y) = some z ∧ PS .nx (L.set i (.v z)) S1) := ⟨v_aug⟩
instance {mi : Ls → Sto → R Src} {t : Tg} : Ws (sFor mi t sa L S) PS (wp (mi L S) fun src S1 => wps (forL src.2 src.1 t sa src.1 L S1) PS) := ⟨q_for⟩
end
section
variable {a b : Int}
instance : Op (oAdd (.int a) (.int b)) (.int (a + b)) := ⟨x_addi⟩
instance : Op (oSub (.int a) (.int b)) (.int (a - b)) := ⟨x_subi⟩
instance : Op (cEq (.int a) (.int b)) (.bl (decide (a = b))) := ⟨x_eqi⟩
instance : Op (cNe (.int a) (.int b)) (.bl (decide (a ≠ b))) := ⟨x_nei⟩
instance : Op (cLt (.int a) (.int b)) (.bl (decide (a < b))) := ⟨x_lti⟩
instance : Op (cLe (.int a) (.int b)) (.bl (decide (a ≤ b))) := ⟨x_lei⟩
instance : Op (cGt (.int a) (.int b)) (.bl (decide (b < a))) := ⟨x_gti⟩
instance : Op (cGe (.int a) (.int b)) (.bl (decide (b ≤ a))) := ⟨x_gei⟩
instance {a b : List Nat} : Op (cEq (.str a) (.str b)) (.bl (decide (a = b))) := ⟨x_eqs⟩
instance {a b : List Nat} : Op (cNe (.str a) (.str b)) (.bl (decide (a ≠ b))) := ⟨x_nes⟩
instance : Og (oMul (.int a) (.int b)) (.int (a * b)) (a.natAbs.log2 + b.natAbs.log2 < 1000000) := ⟨x_muli⟩
instance : Og (oFdiv (.int a) (.int b)) (.int (a / b)) (0 < b ∧ b.natAbs.log2 < 9000) := ⟨x_div⟩
instance : Og (oMod (.int a) (.int b)) (.int (a % b)) (0 < b) := ⟨x_mod⟩
instance : Og (oPow (.int a) (.int b)) (.int (a ^ b.toNat)) (0 ≤ b ∧ b ≤ 1000000 ∧ a.natAbs < 2 ^ 64) := ⟨x_pow⟩
instance {a b : List Nat} : Og (oAdd (.str a) (.str b)) (.str (a ++ b)) (a.length + b.length ≤ sizeLine) := ⟨x_adds⟩
instance {a b : List D} : Og (oAdd (.tup a) (.tup b)) (.tup (a ++ b)) (a.length + b.length ≤ sizeLine) := ⟨x_addt⟩
instance {a b : List D} : Og (oAdd (.lst a) (.lst b)) (.lst (a ++ b)) (a.length + b.length ≤ sizeLine) := ⟨x_addl⟩
end
theorem g_op {e : Option D} {z : D} [h : Op e z] {Q : D → Prop} (k : Q z) : ∃ w, e = some w ∧ Q w := ⟨z, h.eq, k⟩
theorem g_og {e : Option D} {z : D} {c : Prop} [h : Og e z c] {Q : D → Prop} (hc : c) (k : Q z) : ∃ w, e = some w ∧ Q w := ⟨z, h.eq hc, k⟩
section
variable {all xs ds acc : List D} {d : D} {t : Tg} {b : SM} {L Lw : Ls} {S : Sto} {PS : Fl → Ls → Sto → Prop} {PL : List D → Sto → Prop} {tt : Ls → Sto → R Bool} {te : EM}
theorem l_nil (h : xs = []) (k : PL acc S) : wp (lcLoop none all t tt te Lw xs S acc) PL := by subst h; exact ⟨k⟩
theorem l_cons (h : xs = d :: ds) (k : ∃ L1, tgA t d Lw = some L1 ∧ @wp noXP _ (tt L1 S) fun b S1 => (b = true → @wp noXP _ (te L1 S1) fun y S2 => acc.length < sizeLine ∧ wp (lcLoop none all t tt te Lw ds S2 (acc ++ [y])) PL) ∧ (b = false → wp (lcLoop none all t tt te Lw ds S1 acc) PL)) : wp (lcLoop none all t tt te Lw xs S acc) PL := by
  subst h
  obtain ⟨L1, e, h⟩ := k
  rw [lcLoop, ckd, e]
  dsimp only
  cases q : tt L1 S with
  | no => rw [q] at h; exact h.out.elim
  | ex x S1 => rw [q] at h; exact h.out.elim
  | ok b S1 =>
    rw [q] at h
    obtain ⟨h1, h2⟩ := (show (b = true → @wp noXP _ (te L1 S1) fun y S2 => acc.length < sizeLine ∧ wp (lcLoop none all t tt te Lw ds S2 (acc ++ [y])) PL) ∧ (b = false → wp (lcLoop none all t tt te Lw ds S1 acc) PL) from h.out)
    dsimp only [R.nox, R.bind]
    cases b with
    | true =>
      have h1 := h1 rfl
      rw [if_pos rfl]
      cases q2 : te L1 S1 with
      | no => rw [q2] at h1; exact h1.out.elim
      | ex x S2 => rw [q2] at h1; exact h1.out.elim
      | ok y S2 =>
        rw [q2] at h1
        obtain ⟨hz, h1⟩ := h1.out
        dsimp only
        rw [if_pos hz]
        exact h1
    | false => exact h2 rfl
end
theorem g_rng1 {ds : List D} {j : Int} {P : Src → Prop} (hd : ds = [.int j]) (h : -(2 ^ 62) ≤ j ∧ j < 2 ^ 62) (k : P (rngI 0 j.toNat, none)) : ∃ s, rng1 ds = some s ∧ P s := by
  subst hd
  exact ⟨_, if_pos h, k⟩
theorem x_sls {x : List Nat} {lo hi : Option Int} (h : x.length ≤ sizeLine) : oSl (.str x) lo hi = some (.str (cutD x lo hi)) := if_pos h
instance {x : List Nat} {lo hi : Option Int} : Og (oSl (.str x) lo hi) (.str (cutD x lo hi)) (x.length ≤ sizeLine) := ⟨x_sls⟩
instance {x : List D} {lo hi : Option Int} : Op (oSl (.lst x) lo hi) (.lst (cutD x lo hi)) := ⟨rfl⟩
instance {x : List D} {lo hi : Option Int} : Op (oSl (.tup x) lo hi) (.tup (cutD x lo hi)) := ⟨rfl⟩
theorem wpG {xp : ExP} {α : Type} {r : R α} {P : α → Sto → Prop} (h : @wp xp α r P) : @wp xp α r P := h
theorem wsG {xp : ExP} {r : RS} {P : Fl → Ls → Sto → Prop} (h : @wps xp r P) : @wps xp r P := h
theorem exG {α : Sort _} {p : α → Prop} (h : Exists p) : Exists p := h
theorem anG {a b : Prop} (h : a ∧ b) : a ∧ b := h
end Rf
set_option Elab.async false
set_option linter.all false
set_option maxRecDepth 100000
set_option maxHeartbeats 0
namespace Rf
open PySem L2 TL
variable {xp : ExP}
theorem rngI_succ (lo : Int) (n : Nat) : rngI lo (n + 1) = .int lo :: rngI (lo + 1) n := by
  unfold rngI
  rw [List.range_succ_eq_map, List.map_cons, List.map_map]
  congr 1
  · simp
  · apply List.map_congr_left
    intro i _
    simp only [Function.comp]
    congr 1
    omega
section
variable {α : Type} {f g : α → D} {all : List D} {t : Tg} {b : SM} {P : Fl → Ls → Sto → Prop} {PL : List D → Sto → Prop} {tt : Ls → Sto → R Bool} {te : EM} {Lw : Ls}
theorem wps_rng (J : Int → Nat → Ls → Sto → Prop)
    (step : ∀ j n L S, J j (n + 1) L S → ∃ L1, tgA t (.int j) L = some L1 ∧ wps (b L1 S) fun fl L2 S2 => match fl with
      | .nx => J (j + 1) n L2 S2
      | .ct => J (j + 1) n L2 S2
      | .bk => P .nx L2 S2
      | fl => P fl L2 S2)
    (done : ∀ j L S, J j 0 L S → P .nx L S) (j : Int) (n : Nat) (L : Ls) (S : Sto) (h : J j n L S) : wps (forL none all t b (rngI j n) L S) P := by
  refine wps_for (fun ds L S => ∃ j n, ds = rngI j n ∧ J j n L S) ?_ ?_ _ L S ⟨j, n, rfl, h⟩
  · rintro d ds L S ⟨j, n, e, h⟩
    cases n with
    | zero => cases e
    | succ n =>
      rw [rngI_succ] at e
      cases e
      obtain ⟨L1, e1, w⟩ := step j n L S h
      exact ⟨L1, e1, w.mono fun fl L2 S2 q => by
        cases fl with
        | nx => exact ⟨_, _, rfl, q⟩
        | ct => exact ⟨_, _, rfl, q⟩
        | bk => exact q
        | rt d => exact q⟩
  · rintro L S ⟨j, n, e, h⟩
    cases n with
    | zero => exact done j L S h
    | succ n => rw [rngI_succ] at e; cases e
theorem lc_rng (J : Int → Nat → List D → Sto → Prop)
    (step : ∀ j n acc S, J j (n + 1) acc S → ∃ L1, tgA t (.int j) Lw = some L1 ∧ @wp noXP _ (tt L1 S) fun b S1 => if b = true then @wp noXP _ (te L1 S1) fun y S2 => acc.length < sizeLine ∧ J (j + 1) n (acc ++ [y]) S2 else J (j + 1) n acc S1)
    (done : ∀ j S acc, J j 0 acc S → PL acc S) (j : Int) (n : Nat) (S : Sto) (acc : List D) (h : J j n acc S) : wp (lcLoop none all t tt te Lw (rngI j n) S acc) PL := by
  refine wp_lc (fun ds S acc => ∃ j n, ds = rngI j n ∧ J j n acc S) ?_ ?_ _ S acc ⟨j, n, rfl, h⟩
  · rintro d ds S acc ⟨j, n, e, h⟩
    cases n with
    | zero => cases e
    | succ n =>
      rw [rngI_succ] at e
      cases e
      obtain ⟨L1, e1, w⟩ := step j n acc S h
      refine ⟨L1, e1, w.mono fun b S1 q => ?_⟩
      split
      · rename_i hb
        rw [if_pos hb] at q
        exact q.mono fun y S2 q => ⟨q.1, _, _, rfl, q.2⟩
      · rename_i hb
        rw [if_neg hb] at q
        exact ⟨_, _, rfl, q⟩
  · rintro S acc ⟨j, n, e, h⟩
    cases n with
    | zero => exact done j S acc h
    | succ n => rw [rngI_succ] at e; cases e
end
theorem wp.eq {α : Type} {r : R α} {P : α → Sto → Prop} {a : α} {S : Sto} (e : r = .ok a S) (h : P a S) : wp r P := by rw [e]; exact ⟨h⟩
theorem ok_of {r : R D} {d : D} {S : Sto} (h : @wp noXP _ r fun a S' => a = d ∧ S' = S) : r = .ok d S := by
  obtain ⟨a, S', e, rfl, rfl⟩ := h.ex
  exact e
theorem atI_get {α : Type} {xs : List α} {i : Int} {a : α} (h0 : 0 ≤ i) (h : xs[i.toNat]? = some a) : L2.atI xs i = some a := by
  obtain ⟨n, rfl⟩ := Int.eq_ofNat_of_zero_le h0
  exact atI_some (by simpa using h)
mutual
def pl : D → Bool
  | .non => true
  | .bl _ => true
  | .int _ => true
  | .str _ => true
  | .tup ds => decide (ds.length ≤ 100000) && plL ds
  | .lst ds => decide (ds.length ≤ 100000) && plL ds
  | _ => false
def plL : List D → Bool
  | [] => true
  | d :: ds => pl d && plL ds
end
mutual
def dp : D → Nat
  | .tup ds => dpL ds + 1
  | .lst ds => dpL ds + 1
  | _ => 0
def dpL : List D → Nat
  | [] => 0
  | d :: ds => max (dp d) (dpL ds)
end
end Rf
set_option Elab.async false
set_option linter.all false
set_option maxRecDepth 100000
set_option maxHeartbeats 0
namespace Rf
open PySem L2 TL
variable {xp : ExP}
section
variable {X : Cx} {W : WX} {e : Expr} {m : EM} {pos pos' : Pos}
theorem pe_ext {o : Expr} {apos : Pos} {to te : TE} (ho : PE X o to) (he : PE X e te) (hs : noStar e = true) (hsup : notSuper o = true) (hl : (apos.endLine == pos.line) = true) :
    PE X (.Call (.Attribute o "extend" apos) [e] [] pos) (tBM X.K "list" rExtend to (tCons te tNil)) :=
  pe_bm PySem.F.plainAttrs_list PySem.F.slot_list_extend PySem.F.type_list_extend mt_extend ho (pa_cons he pa_nil (star_cons hs)) (not_super hsup) (by rw [star_cons hs]; rfl) hl (star_cons hs) rfl
def sExt (i : Nat) (m : EM) : SM := fun L S => match L[i]? with
  | some (.o (.lst ds)) => (m L S).st L fun d S1 => match d with
    | .lst es => if ds.length + es.length ≤ sizeLine then .ok .nx (L.set i (.o (.lst (ds ++ es)))) S1 else .no
    | _ => .no
  | _ => .no
theorem ss_ext {i : Nat} {x : Str} {p apos : Pos} (hv : PE X (.Name x p) (tVar i)) (he : SE X W e m) (hs : noStar e = true) (hl : (apos.endLine == pos.line) = true) : SS X W (.Expr (.Call (.Attribute (.Name x p) "extend" apos) [e] [] pos) pos') (sExt i m) :=
  PS.imp (ps_expr (pe_ext hv he hs rfl hl) rfl) fun D σ H ⟨L, S, g, B, gB, f, p⟩ => by
    unfold sExt at p
    split at p
    · rename_i ds q
      obtain ⟨a, ha, oa⟩ := f.loc.own i _ q
      obtain ⟨us, hu, ru⟩ := id oa.1
      refine ⟨_, ha, .inl ⟨rfl, us, SqL.of hu⟩, L, S, g, f.loc, f.wf, st_e f p fun d S1 v H1 g1 f1 e1 r p1 => ?_⟩
      obtain ⟨us1, hu1, ru1⟩ := (oa.ext e1).1
      cases d with
      | lst es =>
        dsimp only at p1
        by_cases hz : ds.length + es.length ≤ sizeLine
        · rw [if_pos hz] at p1
          obtain ⟨b, zs, rfl, hF, hb, rb⟩ := r
          obtain ⟨f2, pe⟩ := f1.chg q ha (ru1.append rb)
          exact ⟨a, b, us1, zs, rfl, rfl, hu1, hb, by rw [ru1.length, rb.length]; exact hz, p1 σ _ g1 f2 pe⟩
        · rw [if_neg hz] at p1; exact p1.elim
      | _ => exact p1.elim
    · exact p.elim
def jsL : List EM → List Nat → EM
  | [], acc => fun _ S => .ok (.str acc) S
  | m :: ms, acc => fun L S => (m L S).bind fun d S1 => match d with
    | .str y => if (acc ++ y).length ≤ sizeLine then jsL ms (acc ++ y) L S1 else .no
    | _ => .no
def eJs (ms : List EM) : EM := jsL ms []
end
section
variable {X : Cx} {W : WX} {a b : Expr} {ma mb : EM} {pos : Pos}
def fCat (ma mb : EM) : Ls → Sto → R (List D) := fun L S => (ma L S).bind fun x S1 => (mb L S1).bind fun y S2 => match deref S2 x, deref S2 y with
  | .lst ds, .lst es => if ds.length + es.length ≤ sizeLine then .ok (ds ++ es) S2 else .no
  | _, _ => .no
end
section
variable {P : D → Sto → Prop} {PS : Fl → Ls → Sto → Prop} {L : Ls} {S : Sto} {m : EM} {ms : List EM} {i : Nat} {acc : List Nat}
instance : Wp (eJs ms L S) P (wp (jsL ms [] L S) P) := ⟨id⟩
instance : Wp (jsL [] acc L S) P (P (.str acc) S) := ⟨fun h => ⟨h⟩⟩
instance : Wp (jsL (m :: ms) acc L S) P (wp (m L S) fun d S1 => ∃ y, d = .str y ∧ (acc ++ y).length ≤ sizeLine ∧ wp (jsL ms (acc ++ y) L S1) P) := ⟨fun h => by
  rw [jsL, wp_bind]
  refine h.mono fun d S1 ⟨y, e, hz, h⟩ => ?_
  subst e
  dsimp only
  rw [if_pos hz]
  exact h⟩
instance : Ws (sExt i m L S) PS (∃ ds, L[i]? = some (.o (.lst ds)) ∧ wp (m L S) fun d S1 => ∃ es, d = .lst es ∧ ds.length + es.length ≤ sizeLine ∧ PS .nx (L.set i (.o (.lst (ds ++ es)))) S1) := ⟨fun ⟨ds, e, h⟩ => by
  unfold sExt
  rw [e]
  dsimp only
  rw [wps_st]
  refine h.mono fun d S1 ⟨es, e, hz, h⟩ => ?_
  subst e
  dsimp only
  rw [if_pos hz]
  exact ⟨h⟩⟩
instance {a b : EM} {PL : List D → Sto → Prop} : Wp (fCat a b L S) PL (wp (a L S) fun x S1 => wp (b L S1) fun y S2 => ∃ ds es, deref S2 x = .lst ds ∧ deref S2 y = .lst es ∧ ds.length + es.length ≤ sizeLine ∧ PL (ds ++ es) S2) := ⟨fun h => by
  unfold fCat
  rw [wp_bind]
  refine h.mono fun x S1 h => ?_
  rw [wp_bind]
  refine h.mono fun y S2 ⟨ds, es, e1, e2, hz, h⟩ => ?_
  rw [e1, e2]
  dsimp only
  rw [if_pos hz]
  exact ⟨h⟩⟩
end
end Rf
set_option Elab.async false
set_option linter.all false
set_option maxRecDepth 100000
set_option maxHeartbeats 0
namespace Rf
open PySem L2 TL
variable {xp : ExP}
/-- the walker stops at a loop -/
def stopL (p : Prop) : Prop := p
theorem stopL_in {all xs : List D} {t : Tg} {b : SM} {L : Ls} {S : Sto} {PS : Fl → Ls → Sto → Prop} (h : stopL (wps (forL none all t b xs L S) PS)) : wps (forL none all t b xs L S) PS := h
end Rf
set_option Elab.async false
set_option linter.all false
set_option maxRecDepth 100000
set_option maxHeartbeats 0
namespace Rf
open PySem PySem.Spec PyProof.Rows L2 TL
open PySem.Froz (SD sObj TxOk addTx tailTx add_x add_ok is_str)
/-- the table can be walked -/
def Wk (w : World) (t : SetTable) : Prop := Ris t.place.toList ∧ (w.params.followText "set-order" = true ∨ t.led = true)
/-- the set of the texts l stands at a -/
def SetS (P : Program) (w : World) (h : Heap) (a : Addr) (l : List Str) : Prop := ∃ D : SD, h.get? a = some (sObj "set" D) ∧ TxOk P w D l ∧ l.Nodup ∧ Wk w D.2.2
section
variable {P : Program} {w : World} {h h' : Heap} {a : Addr} {l : List Str}
theorem SetS.at (r : SetS P w h a l) (k : ∀ o, h.get? a = some o → h'.get? a = some o) : SetS P w h' a l := by
  obtain ⟨D, q, z⟩ := r
  exact ⟨D, k _ q, z⟩
end
end Rf
set_option Elab.async false
set_option linter.all false
set_option maxRecDepth 100000
set_option maxHeartbeats 0
namespace Rf
open PySem PySem.Spec PyProof.Rows L2 TL
open PySem.Froz (SD sObj TxOk addTx tailTx add_x add_ok is_str)
end Rf
set_option Elab.async false
set_option linter.all false
set_option maxRecDepth 100000
set_option maxHeartbeats 0
namespace Rf
open PySem PyProof.Rows L2 TL
variable {xp : ExP}
def insU (x : List Nat) : List (List Nat) → List (List Nat)
  | [] => [x]
  | y :: ys => if x = y then y :: ys else if x < y then x :: y :: ys else y :: insU x ys
def sortU : List (List Nat) → List (List Nat)
  | [] => []
  | x :: xs => insU x (sortU xs)
def srtR (ds : List D) (S : Sto) : R (List D) := match strsD ds with
  | some xs => if xs.length < 4000 then .ok ((sortU xs).map .str) S else .no
  | none => .no
noncomputable def fSrt (mi : Ls → Sto → R Src) (own : List Nat) (t : Tg) (tt : Ls → Sto → R Bool) (te : EM) : Ls → Sto → R (List D) := fun L S =>
  (mi L S).bind fun src S1 => (lcLoop src.2 src.1 t tt te (wipeL L own) src.1 S1 []).bind srtR
theorem r_fSrt {mi : Ls → Sto → R Src} {own : List Nat} {t : Tg} {ta : Ls → Sto → R Bool} {m : EM} {L : Ls} {S : Sto} {PL : List D → Sto → Prop} (h : wp (mi L S) fun src S1 => wp (lcLoop src.2 src.1 t ta m (wipeL L own) src.1 S1 []) fun ds S2 => ∃ xs, strsD ds = some xs ∧ xs.length < 4000 ∧ PL ((sortU xs).map .str) S2) : wp (fSrt mi own t ta m L S) PL := by
  unfold fSrt
  rw [wp_bind]
  refine h.mono fun src S1 h => ?_
  rw [wp_bind]
  refine h.mono fun ds S2 ⟨xs, e, few, k⟩ => ?_
  unfold srtR
  rw [e]
  show wp (if xs.length < 4000 then _ else _) PL
  rw [if_pos few]
  exact ⟨k⟩
instance {mi : Ls → Sto → R Src} {own : List Nat} {t : Tg} {ta : Ls → Sto → R Bool} {m : EM} {L : Ls} {S : Sto} {PL : List D → Sto → Prop} : Wp (fSrt mi own t ta m L S) PL (wp (mi L S) fun src S1 => wp (lcLoop src.2 src.1 t ta m (wipeL L own) src.1 S1 []) fun ds S2 => ∃ xs, strsD ds = some xs ∧ xs.length < 4000 ∧ PL ((sortU xs).map .str) S2) := ⟨r_fSrt⟩
end Rf
set_option Elab.async false
set_option linter.all false
set_option maxRecDepth 100000
set_option maxHeartbeats 0
namespace Rf
open PySem PySem.Spec PyProof.Rows L2 TL
variable {xp : ExP}
open PySem.Froz (SD sObj TxOk addTx tailTx add_x add_ok is_str)
section
variable {P : Program} {w : World} {A : Around} {E : Value → Shared → Prop} {s : Shared}
/-- what a walk over texts lays -/
structure Has (xs : List Str) (i : Nat) (l : List Str) : Prop where
  nd : l.Nodup
  mem : ∀ k, k ∈ l ↔ k ∈ xs.take i
  len : l.length ≤ i
theorem Has.next {xs : List Str} {i : Nat} {l : List Str} {k : Str} (h : Has xs i l) (hk : xs[i]? = some k) : Has xs (i + 1) (if k ∈ l then l else k :: l) := by
  have e : xs.take (i + 1) = xs.take i ++ [k] := by rw [List.take_add_one, hk]; rfl
  by_cases c : k ∈ l
  · rw [if_pos c]
    refine ⟨h.nd, fun z => ?_, Nat.le_succ_of_le h.len⟩
    rw [e, List.mem_append, ← h.mem z]
    exact ⟨.inl, fun q => q.elim id fun q => by rw [List.mem_singleton.mp q]; exact c⟩
  · rw [if_neg c]
    refine ⟨List.nodup_cons.mpr ⟨c, h.nd⟩, fun z => ?_, Nat.succ_le_succ h.len⟩
    rw [e, List.mem_append, ← h.mem z, List.mem_singleton, List.mem_cons]
    exact or_comm
end
end Rf
set_option Elab.async false
set_option linter.all false
set_option maxRecDepth 100000
set_option maxHeartbeats 4000000
namespace Rf
open PySem L2 TL
def sRaise (c f : Str) (m : EM) : SM := fun L S => (m L S).st L fun d S1 => .ex ⟨c, [(f, d)]⟩ L S1
def noX (L : Ls) : Bool := L.all fun
  | .exc _ => false
  | _ => true
abbrev IsT := Str → Option Bool
def suR (i : Nat) : RS → RS
  | .ok f L2 S2 => if noX (L2.set i .un) = true then .ok f (L2.set i .un) S2 else .no
  | _ => .no
def sTry (is : IsT) (i : Nat) (b su : SM) : SM := fun L S => match b L S with
  | .ex x L1 S1 => match is x.cls with
    | some true => suR i (su (L1.set i (.exc x)) S1)
    | some false => .ex x L1 S1
    | none => .no
  | r => r
theorem LocRel.kc {k k' : Kx} {σ : L2.St} {L : Ls} {H : Hp} {g : G} (h1 : k'.K = k.K) (h2 : k'.mg = k.mg) (h3 : k'.w = k.w) (l : LocRel k σ L H g) (hx : ∀ (i : Nat) (x : Exn), L[i]? ≠ some (.exc x)) : LocRel k' σ L H g where
  len := l.len
  val := fun i d q => by
    obtain ⟨v, a, b⟩ := l.val i d q
    exact ⟨v, a, Rep.kc h1 h2 _ _ b⟩
  own := fun i o q => by
    obtain ⟨a, b, c⟩ := l.own i o q
    exact ⟨a, b, c.1.kc h1 h2 h3, c.2⟩
  sep := l.sep
  exc := fun i x q => absurd q (hx i x)
theorem Fr.kc {k k' : Kx} {B : Hp} {gB : G} {σ : L2.St} {L : Ls} {H : Hp} {g : G} {S : Sto} (h1 : k'.K = k.K) (h2 : k'.mg = k.mg) (h3 : k'.w = k.w) (f : Fr k B gB σ L H g S) (hx : ∀ (i : Nat) (x : Exn), L[i]? ≠ some (.exc x)) : Fr k' B gB σ L H g S :=
  ⟨f.loc.kc h1 h2 h3 hx, f.wf.kc h1 h2 h3, f.base, f.new⟩
end Rf
set_option Elab.async false
set_option linter.all false
set_option maxRecDepth 100000
set_option maxHeartbeats 4000000
namespace Rf
open PySem L2 TL
def okO (a b : Option (Option Value)) : Bool := decide (a = b)
theorem okO_ok {a b : Option (Option Value)} (h : okO a b = true) : a = b := of_decide_eq_true h
theorem b2 {a b : Bool} (h : (a && b) = true) : a = true ∧ b = true := Bool.and_eq_true_iff.mp h
end Rf
set_option Elab.async false
set_option linter.all false
set_option maxRecDepth 100000
set_option maxHeartbeats 4000000
namespace Rf
open PySem PySem.W PySem.Calls PyProof.Rows PySem.HandSPX
end Rf
set_option Elab.async false
set_option linter.all false
set_option maxRecDepth 100000
set_option maxHeartbeats 4000000
namespace PySem.W
open PySem PySem.Spec PySem.Calls PyProof.Rows
end PySem.W
namespace Rf
open PySem L2 TL
/-- the error's field f; cs: the classes that are known -/
def eXf (cs : Str → Bool) (i : Nat) (f : Str) : EM := fun L S => match L[i]? with
  | some (.exc x) => if cs x.cls = true then lift (x.fs.lookup f) S else .no
  | _ => .no
/-- isinstance(the error, C) -/
def eIs (t : IsT) (i : Nat) : EM := fun L S => match L[i]? with
  | some (.exc x) => if x.fs.isEmpty = true then .no else match t x.cls with
    | some b => .ok (.bl b) S
    | none => .no
  | _ => .no
end Rf
set_option Elab.async false
set_option linter.all false
set_option maxRecDepth 100000
set_option maxHeartbeats 0
namespace Rf
open PySem L2 TL
variable {xp : ExP}
section
variable {P : D → Sto → Prop} {PS : Fl → Ls → Sto → Prop} {L : Ls} {S : Sto} {i j : Nat} {m : EM} {c f : Str} {is t : IsT} {b su : SM} {cs : Str → Bool}
instance : Ws (sRaise c f m L S) PS (wp (m L S) fun d S1 => xp.E ⟨c, [(f, d)]⟩ S1) := ⟨fun h => by
  unfold sRaise
  rw [wps_st]
  exact h.mono fun d S1 h => ⟨h⟩⟩
theorem q_suR {r : RS} (h : @wps noXP r fun fl L2 S2 => noX (L2.set i .un) = true ∧ PS fl (L2.set i .un) S2) : wps (suR i r) PS := by
  cases r with
  | no => exact h.out.elim
  | ex x L S => exact h.out.elim
  | ok fl L2 S2 =>
    obtain ⟨h1, h2⟩ := h.out
    show wps (if noX (L2.set i .un) = true then RS.ok fl (L2.set i .un) S2 else .no) PS
    rw [if_pos h1]
    exact ⟨h2⟩
/-- what is wanted of an exception of a try's body, where the locals are L -/
@[reducible] def tryX (xp : ExP) (is : IsT) (i : Nat) (su : SM) (L : Ls) (PS : Fl → Ls → Sto → Prop) : ExP := ⟨fun x S1 => ∃ b, is x.cls = some b ∧ (b = true → @wps noXP (su (L.set i (.exc x)) S1) fun fl L2 S2 => noX (L2.set i .un) = true ∧ PS fl (L2.set i .un) S2) ∧ (b = false → xp.E x S1)⟩
theorem try_ex {x : Exn} {S1 : Sto} (h : (tryX xp is i su L PS).E x S1) (e : b L S = .ex x L S1) : wps (sTry is i b su L S) PS := by
  obtain ⟨bb, e1, h1, h2⟩ := h
  unfold sTry
  rw [e]
  simp only [e1]
  cases bb with
  | true => exact q_suR (h1 rfl)
  | false => exact ⟨h2 rfl⟩
/-- the body is one statement that sets a name -/
theorem q_try_set (h : @wp (tryX xp is i su L PS) _ (m L S) fun d S1 => PS .nx (L.set j (.v d)) S1) : wps (sTry is i (sSeq (sSet j m) sNil) su L S) PS := by
  cases q : m L S with
  | no => rw [q] at h; exact h.out.elim
  | ex x S1 =>
    rw [q] at h
    refine try_ex h.out ?_
    unfold sSeq sSet
    rw [q]
  | ok d S1 =>
    rw [q] at h
    have e : sSeq (sSet j m) sNil L S = .ok .nx (L.set j (.v d)) S1 := by
      unfold sSeq sSet
      rw [q] <;> rfl
    unfold sTry
    rw [e]
    exact ⟨h.out⟩
theorem q_try_drop (h : @wp (tryX xp is i su L PS) _ (m L S) fun d S1 => PS .nx L S1) : wps (sTry is i (sSeq (sDrop m) sNil) su L S) PS := by
  cases q : m L S with
  | no => rw [q] at h; exact h.out.elim
  | ex x S1 =>
    rw [q] at h
    refine try_ex h.out ?_
    unfold sSeq sDrop
    rw [q]
  | ok d S1 =>
    rw [q] at h
    have e : sSeq (sDrop m) sNil L S = .ok .nx L S1 := by
      unfold sSeq sDrop
      rw [q] <;> rfl
    unfold sTry
    rw [e]
    exact ⟨h.out⟩
theorem q_try_ret (h : @wp (tryX xp is i su L PS) _ (m L S) fun d S1 => PS (.rt d) L S1) : wps (sTry is i (sSeq (sRet m) sNil) su L S) PS := by
  cases q : m L S with
  | no => rw [q] at h; exact h.out.elim
  | ex x S1 =>
    rw [q] at h
    refine try_ex h.out ?_
    unfold sSeq sRet
    rw [q]
  | ok d S1 =>
    rw [q] at h
    have e : sSeq (sRet m) sNil L S = .ok (.rt d) L S1 := by
      unfold sSeq sRet
      rw [q]
    unfold sTry
    rw [e]
    exact ⟨h.out⟩
instance : Ws (sTry is i (sSeq (sSet j m) sNil) su L S) PS (@wp (tryX xp is i su L PS) _ (m L S) fun d S1 => PS .nx (L.set j (.v d)) S1) := ⟨q_try_set⟩
instance : Ws (sTry is i (sSeq (sDrop m) sNil) su L S) PS (@wp (tryX xp is i su L PS) _ (m L S) fun d S1 => PS .nx L S1) := ⟨q_try_drop⟩
instance : Ws (sTry is i (sSeq (sRet m) sNil) su L S) PS (@wp (tryX xp is i su L PS) _ (m L S) fun d S1 => PS (.rt d) L S1) := ⟨q_try_ret⟩
instance : Wp (eXf cs i f L S) P (∃ x, L[i]? = some (.exc x) ∧ cs x.cls = true ∧ ∃ d, x.fs.lookup f = some d ∧ P d S) := ⟨fun ⟨x, e1, e2, d, e3, h⟩ => by
  unfold eXf
  rw [e1]
  dsimp only
  rw [if_pos e2, e3]
  exact ⟨h⟩⟩
instance : Wp (eIs t i L S) P (∃ x, L[i]? = some (.exc x) ∧ x.fs.isEmpty = false ∧ ∃ b, t x.cls = some b ∧ P (.bl b) S) := ⟨fun ⟨x, e1, e2, d, e3, h⟩ => by
  unfold eIs
  rw [e1]
  dsimp only
  rw [e2, e3]
  exact ⟨h⟩⟩
/-- what a run comes to, with its exceptions -/
theorem wp.cases {α : Type} {r : R α} {P : α → Sto → Prop} {Ex : Exn → Sto → Prop} (h : @wp ⟨Ex⟩ _ r P) {Q : α → Sto → Prop} (h1 : ∀ a S, P a S → Q a S) (h2 : ∀ x S, Ex x S → xp.E x S) : wp r Q := by
  cases r with
  | ok a S => exact ⟨h1 _ _ h.out⟩
  | ex x S => exact ⟨h2 _ _ h.out⟩
  | no => exact h.out.elim
end
end Rf
set_option Elab.async false
set_option linter.all false
set_option maxRecDepth 100000
set_option maxHeartbeats 0
namespace Rf
open PySem L2 TL
end Rf
set_option Elab.async false
set_option linter.all false
set_option maxRecDepth 100000
set_option maxHeartbeats 0
namespace Rf
open PySem PySem.Spec PyProof.Rows L2 TL
section
variable {X : Cx}
/-- text * int, else as oMul -/
def oMulT : D → D → Option D
  | .str a, .int b => if a.length ≤ 16 ∧ -(2 ^ 63) ≤ b ∧ b ≤ 1048576 then some (.str (List.replicate b.toNat a).flatten) else none
  | d, e => oMul d e
end
theorem x_muls {a : List Nat} {b : Int} (h : a.length ≤ 16 ∧ -(2 ^ 63) ≤ b ∧ b ≤ 1048576) : oMulT (.str a) (.int b) = some (.str (List.replicate b.toNat a).flatten) := if_pos h
theorem x_mulTi {a b : Int} (h : a.natAbs.log2 + b.natAbs.log2 < 1000000) : oMulT (.int a) (.int b) = some (.int (a * b)) := if_pos h
theorem x_mulTl {a : List D} {b : Int} (h : -(2 ^ 63) ≤ b ∧ b < 2 ^ 63 ∧ a.length * b.toNat ≤ sizeLine) : oMulT (.lst a) (.int b) = some (.lst (List.replicate b.toNat a).flatten) := if_pos h
instance {a : List Nat} {b : Int} : Og (oMulT (.str a) (.int b)) (.str (List.replicate b.toNat a).flatten) (a.length ≤ 16 ∧ -(2 ^ 63) ≤ b ∧ b ≤ 1048576) := ⟨x_muls⟩
instance {a b : Int} : Og (oMulT (.int a) (.int b)) (.int (a * b)) (a.natAbs.log2 + b.natAbs.log2 < 1000000) := ⟨x_mulTi⟩
instance {a : List D} {b : Int} : Og (oMulT (.lst a) (.int b)) (.lst (List.replicate b.toNat a).flatten) (-(2 ^ 63) ≤ b ∧ b < 2 ^ 63 ∧ a.length * b.toNat ≤ sizeLine) := ⟨x_mulTl⟩
end Rf
set_option Elab.async false
set_option linter.all false
set_option maxRecDepth 100000
set_option maxHeartbeats 0
namespace Rf
open PySem L2 TL
def ksI : List D → Option (List Key)
  | [] => some []
  | .int i :: ds => (ksI ds).map (Sum.inl i :: ·)
  | _ => none
def kTup : D → Option (List Key)
  | .tup (d :: ds) => ksI (d :: ds)
  | _ => none
def kD : Key → D
  | .inl i => .int i
  | .inr x => .str x.cps.toList
abbrev Dct := List (List Key × D)
def dGet (kvs : Dct) (q : List Key) : Option D := (kvs.find? fun kv => decide (kv.1 = q)).map (·.2)
def dPut (kvs : Dct) (q : List Key) (d : D) : Dct :=
  if (kvs.any fun kv => decide (kv.1 = q)) = true then kvs.map (fun kv => if kv.1 = q then (kv.1, d) else kv) else kvs ++ [(q, d)]
section
variable {k : Kx} {H : Hp} {g : G}
def KVR (k : Kx) (H : Hp) (g : G) : Dct → List (List Key × V) → Prop
  | [], ws => ws = []
  | p :: r, ws => ∃ v t, ws = (p.1, v) :: t ∧ Rep k H g p.2 v ∧ KVR k H g r t
theorem KVR.mono {H' : Hp} {g' : G} (e : PExt H g H' g') : ∀ {kvs : Dct} {ws : List (List Key × V)}, KVR k H g kvs ws → KVR k H' g' kvs ws
  | [], ws, h => h
  | p :: r, ws, ⟨v, t, q, h1, h2⟩ => ⟨v, t, q, h1.mono e _ _, KVR.mono e h2⟩
theorem KVR.len : ∀ {kvs : Dct} {ws : List (List Key × V)}, KVR k H g kvs ws → ws.length = kvs.length
  | [], ws, h => by rw [show ws = [] from h]; rfl
  | p :: r, ws, ⟨v, t, e, h1, h2⟩ => by rw [e, List.length_cons, List.length_cons, KVR.len h2]
theorem KVR.get {q : List Key} {d : D} : ∀ {kvs : Dct} {ws : List (List Key × V)}, KVR k H g kvs ws → dGet kvs q = some d → ∃ v, valV ws q = some v ∧ Rep k H g d v
  | [], ws, h, e => by cases e
  | p :: r, ws, ⟨v, t, e, h1, h2⟩, hg => by
    subst e
    by_cases hp : p.1 = q
    · rw [valV_pos (p := (p.1, v)) hp]
      unfold dGet at hg
      rw [List.find?_cons, decide_eq_true hp] at hg
      have : p.2 = d := by simpa using hg
      subst this
      exact ⟨v, rfl, h1⟩
    · rw [valV_neg (p := (p.1, v)) hp]
      unfold dGet at hg
      rw [List.find?_cons, decide_eq_false hp] at hg
      exact KVR.get h2 hg
theorem KVR.any {q : List Key} : ∀ {kvs : Dct} {ws : List (List Key × V)}, KVR k H g kvs ws → (ws.any fun kv => decide (kv.1 = q)) = kvs.any fun kv => decide (kv.1 = q)
  | [], ws, h => by rw [show ws = [] from h]; rfl
  | p :: r, ws, ⟨v, t, e, h1, h2⟩ => by rw [e, List.any_cons, List.any_cons, KVR.any h2]
theorem KVR.upd {q : List Key} {d : D} {v : V} (h : Rep k H g d v) : ∀ {kvs : Dct} {ws : List (List Key × V)}, KVR k H g kvs ws → KVR k H g (kvs.map fun kv => if kv.1 = q then (kv.1, d) else kv) (ws.map fun kv => if kv.1 = q then (kv.1, v) else kv)
  | [], ws, e => by rw [show ws = [] from e]; rfl
  | p :: r, ws, ⟨u, t, e, h1, h2⟩ => by
    subst e
    rw [List.map_cons, List.map_cons]
    by_cases hp : p.1 = q
    · rw [if_pos hp, if_pos (show ((p.1, u) : List Key × V).1 = q from hp)]
      exact ⟨v, _, rfl, h, KVR.upd h h2⟩
    · rw [if_neg hp, if_neg (show ¬ ((p.1, u) : List Key × V).1 = q from hp)]
      exact ⟨u, _, rfl, h1, KVR.upd h h2⟩
theorem KVR.snoc {q : List Key} {d : D} {v : V} (h : Rep k H g d v) : ∀ {kvs : Dct} {ws : List (List Key × V)}, KVR k H g kvs ws → KVR k H g (kvs ++ [(q, d)]) (ws ++ [(q, v)])
  | [], ws, e => by rw [show ws = [] from e]; exact ⟨v, [], rfl, h, rfl⟩
  | p :: r, ws, ⟨u, t, e, h1, h2⟩ => by subst e; exact ⟨u, _, rfl, h1, KVR.snoc h h2⟩
theorem KVR.put {q : List Key} {d : D} {v : V} {kvs : Dct} {ws : List (List Key × V)} (r : KVR k H g kvs ws) (h : Rep k H g d v) : KVR k H g (dPut kvs q d) (putK ws q v) := by
  unfold dPut putK
  rw [r.any]
  split
  · exact r.upd h
  · exact r.snoc h
end
def sDct (i : Nat) : SM := fun L S => .ok .nx (L.set i (.o (.dT []))) S
def sPutT (i : Nat) (mk mv : EM) : SM := fun L S => (mv L S).st L fun d S1 => match L[i]? with
  | some (.o (.dT kvs)) => (mk L S1).st L fun y S2 => match kTup y with
    | some q => if kvs.length < sizeLine then .ok .nx (L.set i (.o (.dT (dPut kvs q d)))) S2 else .no
    | none => .no
  | _ => .no
def eGetT (i : Nat) (mk : EM) : EM := fun L S => match L[i]? with
  | some (.o (.dT kvs)) => (mk L S).bind fun y S1 => match kTup y with
    | some q => lift (dGet kvs q) S1
    | none => .no
  | _ => .no
def fKeysT (i : Nat) : Ls → Sto → R (List D) := fun L S => match L[i]? with
  | some (.o (.dT kvs)) => .ok (kvs.map fun kv => .tup (kv.1.map kD)) S
  | _ => .no
end Rf
set_option Elab.async false
set_option linter.all false
set_option maxRecDepth 100000
set_option maxHeartbeats 0
namespace Rf
open PySem PySem.W PySem.Calls PySem.SeqAt PyProof.Rows L2 TS
def lexL : List Int → List Int → Bool
  | [], [] => false
  | [], _ :: _ => true
  | _ :: _, [] => false
  | a :: as, b :: bs => if a = b then lexL as bs else decide (a < b)
/-- how many of L are below -/
def rk (L : List (List Int)) (a : List Int) : Int := ((L.countP fun m => lexL m a : Nat) : Int)
end Rf
set_option Elab.async false
set_option linter.all false
set_option maxRecDepth 100000
set_option maxHeartbeats 0
namespace Rf
open PySem PySem.W PySem.Calls PySem.SeqAt PyProof.Rows L2 TS
end Rf
set_option Elab.async false
set_option linter.all false
set_option maxRecDepth 100000
set_option maxHeartbeats 0
namespace Rf
open PySem PySem.W PySem.Calls PySem.SeqAt PyProof.Rows L2 TS
end Rf
set_option Elab.async false
set_option linter.all false
set_option maxRecDepth 100000
set_option maxHeartbeats 0
namespace Rf
open PySem L2 TL TS PyProof.Rows
end Rf
set_option Elab.async false
set_option linter.all false
set_option maxRecDepth 100000
set_option maxHeartbeats 0
namespace Rf
open PySem L2 TL
def fRev (m : EM) : Ls → Sto → R (List D) := fun L S => (m L S).bind fun d S1 => match deref S1 d with
  | .lst ds => .ok ds.reverse S1
  | _ => .no
section
variable {xp : ExP} {P : D → Sto → Prop} {PL : List D → Sto → Prop} {PS : Fl → Ls → Sto → Prop} {L : Ls} {S : Sto} {i : Nat} {a b m : EM}
theorem r_fRev (h : wp (m L S) fun d S1 => ∃ ds, deref S1 d = .lst ds ∧ PL ds.reverse S1) : wp (fRev m L S) PL := by
  unfold fRev
  rw [wp_bind]
  refine h.mono fun d S1 ⟨ds, e, h⟩ => ?_
  rw [e]
  exact ⟨h⟩
theorem q_dct (h : PS .nx (L.set i (.o (.dT []))) S) : wps (sDct i L S) PS := ⟨h⟩
theorem q_putT (h : wp (b L S) fun d S1 => ∃ kvs, L[i]? = some (.o (.dT kvs)) ∧ wp (a L S1) fun y S2 => ∃ q, kTup y = some q ∧ kvs.length < sizeLine ∧ PS .nx (L.set i (.o (.dT (dPut kvs q d)))) S2) : wps (sPutT i a b L S) PS := by
  unfold sPutT
  rw [wps_st]
  refine h.mono fun d S1 ⟨kvs, e, h⟩ => ?_
  rw [e]
  dsimp only
  rw [wps_st]
  refine h.mono fun y S2 ⟨q, e1, e2, h⟩ => ?_
  rw [e1]
  dsimp only
  rw [if_pos e2]
  exact ⟨h⟩
theorem r_getT (h : ∃ kvs, L[i]? = some (.o (.dT kvs)) ∧ wp (a L S) fun y S1 => ∃ q, kTup y = some q ∧ ∃ d, dGet kvs q = some d ∧ P d S1) : wp (eGetT i a L S) P := by
  obtain ⟨kvs, e, h⟩ := h
  unfold eGetT
  rw [e]
  dsimp only
  rw [wp_bind]
  refine h.mono fun y S1 ⟨q, e1, d, e2, h⟩ => ?_
  rw [e1]
  dsimp only
  exact r_lift ⟨d, e2, h⟩
theorem r_keysT (h : ∃ kvs, L[i]? = some (.o (.dT kvs)) ∧ PL (kvs.map fun kv => .tup (kv.1.map kD)) S) : wp (fKeysT i L S) PL := by
  obtain ⟨kvs, e, h⟩ := h
  unfold fKeysT
  rw [e]
  exact ⟨h⟩
instance : Wp (fRev m L S) PL (wp (m L S) fun d S1 => ∃ ds, deref S1 d = .lst ds ∧ PL ds.reverse S1) := ⟨r_fRev⟩
instance : Ws (sDct i L S) PS (PS .nx (L.set i (.o (.dT []))) S) := ⟨q_dct⟩
instance : Ws (sPutT i a b L S) PS (wp (b L S) fun d S1 => ∃ kvs, L[i]? = some (.o (.dT kvs)) ∧ wp (a L S1) fun y S2 => ∃ q, kTup y = some q ∧ kvs.length < sizeLine ∧ PS .nx (L.set i (.o (.dT (dPut kvs q d)))) S2) := ⟨q_putT⟩
instance : Wp (eGetT i a L S) P (∃ kvs, L[i]? = some (.o (.dT kvs)) ∧ wp (a L S) fun y S1 => ∃ q, kTup y = some q ∧ ∃ d, dGet kvs q = some d ∧ P d S1) := ⟨r_getT⟩
instance : Wp (fKeysT i L S) PL (∃ kvs, L[i]? = some (.o (.dT kvs)) ∧ PL (kvs.map fun kv => .tup (kv.1.map kD)) S) := ⟨r_keysT⟩
end
end Rf
set_option Elab.async false
set_option linter.all false
set_option maxRecDepth 100000
set_option maxHeartbeats 0
namespace Rf
open PySem L2 TL
def kKey : D → Option Key
  | .int i => some (.inl i)
  | .str x => some (.inr ⟨x.toArray⟩)
  | _ => none
abbrev DctK := List (Key × D)
def dGetK (kvs : DctK) (q : Key) : Option D := (kvs.find? fun kv => decide (kv.1 = q)).map (·.2)
def dPutK (kvs : DctK) (q : Key) (d : D) : DctK :=
  if (kvs.any fun kv => decide (kv.1 = q)) = true then kvs.map (fun kv => if kv.1 = q then (kv.1, d) else kv) else kvs ++ [(q, d)]
section
variable {k : Kx} {H : Hp} {g : G}
def KVK (k : Kx) (H : Hp) (g : G) : DctK → List (Key × V) → Prop
  | [], ws => ws = []
  | p :: r, ws => ∃ v t, ws = (p.1, v) :: t ∧ Rep k H g p.2 v ∧ KVK k H g r t
theorem KVK.mono {H' : Hp} {g' : G} (e : PExt H g H' g') : ∀ {kvs : DctK} {ws : List (Key × V)}, KVK k H g kvs ws → KVK k H' g' kvs ws
  | [], ws, h => h
  | p :: r, ws, ⟨v, t, q, h1, h2⟩ => ⟨v, t, q, h1.mono e _ _, KVK.mono e h2⟩
theorem KVK.get {q : Key} {d : D} : ∀ {kvs : DctK} {ws : List (Key × V)}, KVK k H g kvs ws → dGetK kvs q = some d → ∃ v, valV ws q = some v ∧ Rep k H g d v
  | [], ws, h, e => by cases e
  | p :: r, ws, ⟨v, t, e, h1, h2⟩, hg => by
    subst e
    by_cases hp : p.1 = q
    · rw [valV_pos (p := (p.1, v)) hp]
      unfold dGetK at hg
      rw [List.find?_cons, decide_eq_true hp] at hg
      have : p.2 = d := by simpa using hg
      subst this
      exact ⟨v, rfl, h1⟩
    · rw [valV_neg (p := (p.1, v)) hp]
      unfold dGetK at hg
      rw [List.find?_cons, decide_eq_false hp] at hg
      exact KVK.get h2 hg
theorem KVK.any {q : Key} : ∀ {kvs : DctK} {ws : List (Key × V)}, KVK k H g kvs ws → (ws.any fun kv => decide (kv.1 = q)) = kvs.any fun kv => decide (kv.1 = q)
  | [], ws, h => by rw [show ws = [] from h]; rfl
  | p :: r, ws, ⟨v, t, e, h1, h2⟩ => by rw [e, List.any_cons, List.any_cons, KVK.any h2]
theorem KVK.upd {q : Key} {d : D} {v : V} (h : Rep k H g d v) : ∀ {kvs : DctK} {ws : List (Key × V)}, KVK k H g kvs ws → KVK k H g (kvs.map fun kv => if kv.1 = q then (kv.1, d) else kv) (ws.map fun kv => if kv.1 = q then (kv.1, v) else kv)
  | [], ws, e => by rw [show ws = [] from e]; rfl
  | p :: r, ws, ⟨u, t, e, h1, h2⟩ => by
    subst e
    rw [List.map_cons, List.map_cons]
    by_cases hp : p.1 = q
    · rw [if_pos hp, if_pos (show ((p.1, u) : Key × V).1 = q from hp)]
      exact ⟨v, _, rfl, h, KVK.upd h h2⟩
    · rw [if_neg hp, if_neg (show ¬ ((p.1, u) : Key × V).1 = q from hp)]
      exact ⟨u, _, rfl, h1, KVK.upd h h2⟩
theorem KVK.snoc {q : Key} {d : D} {v : V} (h : Rep k H g d v) : ∀ {kvs : DctK} {ws : List (Key × V)}, KVK k H g kvs ws → KVK k H g (kvs ++ [(q, d)]) (ws ++ [(q, v)])
  | [], ws, e => by rw [show ws = [] from e]; exact ⟨v, [], rfl, h, rfl⟩
  | p :: r, ws, ⟨u, t, e, h1, h2⟩ => by subst e; exact ⟨u, _, rfl, h1, KVK.snoc h h2⟩
theorem KVK.put {q : Key} {d : D} {v : V} {kvs : DctK} {ws : List (Key × V)} (r : KVK k H g kvs ws) (h : Rep k H g d v) : KVK k H g (dPutK kvs q d) (putK ws q v) := by
  unfold dPutK putK
  rw [r.any]
  split
  · exact r.upd h
  · exact r.snoc h
end
def eEdc : EM := fun _ S => .ok .edc S
def sDcK (i : Nat) : SM := fun L S => .ok .nx (L.set i (.o (.dK []))) S
def sPutK (i : Nat) (mk mv : EM) : SM := fun L S => (mv L S).st L fun d S1 => match L[i]? with
  | some (.o (.dK kvs)) => (mk L S1).st L fun y S2 => match kKey y with
    | some q => if kvs.length < sizeLine then .ok .nx (L.set i (.o (.dK (dPutK kvs q d)))) S2 else .no
    | none => .no
  | _ => .no
def eGetK (i : Nat) (mk : EM) : EM := fun L S => match L[i]? with
  | some (.o (.dK kvs)) => (mk L S).bind fun y S1 => match kKey y with
    | some q => lift (dGetK kvs q) S1
    | none => .no
  | _ => .no
def fKeysK (i : Nat) : Ls → Sto → R (List D) := fun L S => match L[i]? with
  | some (.o (.dK kvs)) => .ok (kvs.map fun kv => kD kv.1) S
  | _ => .no
def insI (a : Int) : List Int → List Int
  | [] => [a]
  | b :: l => if b < a then b :: insI a l else a :: b :: l
def srtI : List Int → List Int
  | [] => []
  | a :: l => insI a (srtI l)
section
variable {xp : ExP} {P : D → Sto → Prop} {PL : List D → Sto → Prop} {PS : Fl → Ls → Sto → Prop} {L : Ls} {S : Sto} {i : Nat} {a b m : EM}
theorem r_edc (h : P .edc S) : wp (eEdc L S) P := ⟨h⟩
theorem q_dcK (h : PS .nx (L.set i (.o (.dK []))) S) : wps (sDcK i L S) PS := ⟨h⟩
theorem q_putK (h : wp (b L S) fun d S1 => ∃ kvs, L[i]? = some (.o (.dK kvs)) ∧ wp (a L S1) fun y S2 => ∃ q, kKey y = some q ∧ kvs.length < sizeLine ∧ PS .nx (L.set i (.o (.dK (dPutK kvs q d)))) S2) : wps (sPutK i a b L S) PS := by
  unfold sPutK
  rw [wps_st]
  refine h.mono fun d S1 ⟨kvs, e, h⟩ => ?_
  rw [e]
  dsimp only
  rw [wps_st]
  refine h.mono fun y S2 ⟨q, e1, e2, h⟩ => ?_
  rw [e1]
  dsimp only
  rw [if_pos e2]
  exact ⟨h⟩
theorem r_getK (h : ∃ kvs, L[i]? = some (.o (.dK kvs)) ∧ wp (a L S) fun y S1 => ∃ q, kKey y = some q ∧ ∃ d, dGetK kvs q = some d ∧ P d S1) : wp (eGetK i a L S) P := by
  obtain ⟨kvs, e, h⟩ := h
  unfold eGetK
  rw [e]
  dsimp only
  rw [wp_bind]
  refine h.mono fun y S1 ⟨q, e1, d, e2, h⟩ => ?_
  rw [e1]
  dsimp only
  exact r_lift ⟨d, e2, h⟩
theorem r_keysK (h : ∃ kvs, L[i]? = some (.o (.dK kvs)) ∧ PL (kvs.map fun kv => kD kv.1) S) : wp (fKeysK i L S) PL := by
  obtain ⟨kvs, e, h⟩ := h
  unfold fKeysK
  rw [e]
  exact ⟨h⟩
instance : Wp (eEdc L S) P (P .edc S) := ⟨r_edc⟩
instance : Ws (sDcK i L S) PS (PS .nx (L.set i (.o (.dK []))) S) := ⟨q_dcK⟩
instance : Ws (sPutK i a b L S) PS (wp (b L S) fun d S1 => ∃ kvs, L[i]? = some (.o (.dK kvs)) ∧ wp (a L S1) fun y S2 => ∃ q, kKey y = some q ∧ kvs.length < sizeLine ∧ PS .nx (L.set i (.o (.dK (dPutK kvs q d)))) S2) := ⟨q_putK⟩
instance : Wp (eGetK i a L S) P (∃ kvs, L[i]? = some (.o (.dK kvs)) ∧ wp (a L S) fun y S1 => ∃ q, kKey y = some q ∧ ∃ d, dGetK kvs q = some d ∧ P d S1) := ⟨r_getK⟩
instance : Wp (fKeysK i L S) PL (∃ kvs, L[i]? = some (.o (.dK kvs)) ∧ PL (kvs.map fun kv => kD kv.1) S) := ⟨r_keysK⟩
end
end Rf
set_option Elab.async false
set_option linter.all false
set_option maxRecDepth 100000
set_option maxHeartbeats 1000000
namespace Rf
open PySem L2 TL
section
variable {k : Kx} {B H : Hp} {gB g : G} {S : Sto} {σ : L2.St} {L : Ls} {a : Addr} {o o' : O} {u : HO} {n : Nat}
def isM : HO → Bool
  | .lst _ => true
  | .dK _ => true
  | .dT _ => true
  | .ins _ _ _ => true
  | .ext _ => true
  | _ => false
theorem isM_of {u : HO} (h : isM u = true) : (∀ xs, u ≠ .tup xs) ∧ (∀ p q, u ≠ .frz p q) ∧ Mut (some u) := by
  cases u <;> first | exact ⟨fun _ => HO.noConfusion, fun _ _ => HO.noConfusion, True.intro⟩ | cases h
theorem ORep.isM (h : ORep k H g o a) : ∃ u, H a = some u ∧ isM u = true := by
  cases o with
  | lst ds => obtain ⟨vs, e, _⟩ := h; exact ⟨_, e, rfl⟩
  | dK kvs => obtain ⟨vs, e, _⟩ := h; exact ⟨_, e, rfl⟩
  | dT kvs => obtain ⟨vs, e, _⟩ := h; exact ⟨_, e, rfl⟩
  | ins c ns ds => obtain ⟨C, dx, vs, _, e, _⟩ := h; exact ⟨_, e, rfl⟩
  | dN kvs => obtain ⟨es, e, _⟩ := h; exact ⟨_, e, rfl⟩
theorem ORep.mut (h : ORep k H g o a) : (∀ xs, H a ≠ some (.tup xs)) ∧ (∀ p q, H a ≠ some (.frz p q)) ∧ Mut (H a) := by
  obtain ⟨u, e, m⟩ := h.isM
  obtain ⟨m1, m2, m3⟩ := isM_of m
  rw [e]
  exact ⟨fun xs z => m1 xs (Option.some.inj z), fun p q z => m2 p q (Option.some.inj z), m3⟩
theorem WF.pe (w : WF k H g S) (hn : S[n]? = some o) : PExt H g (upd H (g.ρ n) u) g := by
  have hg : n < g.n := by rw [← w.len]; exact (List.getElem?_eq_some_iff.mp hn).1
  obtain ⟨m1, m2, _⟩ := ORep.mut (w.ob n _ hn)
  refine ⟨fun _ f => f, fun b o q1 q => ?_, fun b xs q => ?_, fun b o u q => ?_, Nat.le_refl _, fun _ _ => rfl⟩
  · rw [upd_ne (fun z => w.nF n hg (by rw [← z]; exact q1))]; exact q
  · rw [upd_ne (fun z => m1 xs (by rw [← z]; exact q))]; exact q
  · rw [upd_ne (fun z => m2 o u (by rw [← z]; exact q))]; exact q
theorem WF.chg (w : WF k H g S) (hn : S[n]? = some o) (r : ORep k (upd H (g.ρ n) u) g o' (g.ρ n)) : Ext H g (upd H (g.ρ n) u) g ∧ WF k (upd H (g.ρ n) u) g (S.set n o') := by
  have hl : n < S.length := (List.getElem?_eq_some_iff.mp hn).1
  have hg : n < g.n := by rw [← w.len]; exact hl
  have pe := w.pe (u := u) hn
  obtain ⟨t0, ht0⟩ := ORep.tr (w.ob n _ hn)
  refine ⟨⟨pe, fun a o q hb => by rw [upd_ne (fun z => hb n hg z.symm)]; exact q, fun _ h => .inl h, fun i h1 h2 => absurd h2 (Nat.not_lt.mpr h1), fun a o q => ?_⟩, ?_⟩
  · by_cases z : a = g.ρ n
    · subst z; exact ⟨_, upd_same⟩
    · exact ⟨o, by rw [upd_ne z]; exact q⟩
  · refine ⟨by rw [List.length_set]; exact w.len, fun i o h => ?_, w.inj, w.nF, fun a q => ?_⟩
    · by_cases hi : n = i
      · subst hi
        rw [List.getElem?_set_self hl] at h
        cases h
        exact r
      · rw [List.getElem?_set_ne hi] at h
        have hi' : i < g.n := by rw [← w.len]; exact (List.getElem?_eq_some_iff.mp h).1
        exact (w.ob i o h).mono pe fun o q => by rw [upd_ne (fun z => hi (w.inj i n hi' hg z).symm)]; exact q
    · obtain ⟨o, z⟩ := w.tF a q
      exact ⟨o, by rw [upd_ne (fun y => w.nF n hg (by rw [← y]; exact q))]; exact z⟩
theorem Fr.chgS (f : Fr k B gB σ L H g S) (hn : S[n]? = some o) (r : ORep k (upd H (g.ρ n) u) g o' (g.ρ n)) : Fr k B gB σ L (upd H (g.ρ n) u) g (S.set n o') ∧ PExt H g (upd H (g.ρ n) u) g := by
  obtain ⟨e, w⟩ := f.wf.chg hn r
  exact ⟨f.ext e w, e.toPExt⟩
end
def fGet {α : Type} (f : Str) : List Str → List α → Option α
  | n :: ns, x :: xs => if n = f then some x else fGet f ns xs
  | _, _ => none
def fPut {α : Type} (f : Str) (v : α) : List Str → List α → List Str × List α
  | n :: ns, x :: xs => if n = f then (n :: ns, v :: xs) else ((n :: (fPut f v ns xs).1), (x :: (fPut f v ns xs).2))
  | _, _ => ([f], [v])
theorem fGet_zip (f : Str) : ∀ (ns : List Str) (vs : List V), (ns.zip vs).lookup f = fGet f ns vs
  | [], _ => rfl
  | _ :: _, [] => rfl
  | n :: ns, v :: vs => by
    rw [List.zip_cons_cons, List.lookup_cons, fGet]
    by_cases h : n = f
    · subst h; simp
    · rw [if_neg h, show (f == n) = false from beq_eq_false_iff_ne.mpr (fun e => h e.symm)]
      exact fGet_zip f ns vs
theorem fPut_zip (f : Str) (v : V) : ∀ (ns : List Str) (vs : List V), putF f v (ns.zip vs) = (fPut f v ns vs).1.zip (fPut f v ns vs).2
  | [], _ => rfl
  | _ :: _, [] => rfl
  | n :: ns, x :: vs => by
    rw [List.zip_cons_cons, putF, fPut]
    by_cases h : n = f
    · rw [if_pos h, if_pos h]; rfl
    · rw [if_neg h, if_neg h, fPut_zip f v ns vs]; rfl
theorem fPut_ns {α β : Type} (f : Str) (v : α) (w : β) : ∀ (ns : List Str) (xs : List α) (ys : List β), xs.length = ys.length → (fPut f v ns xs).1 = (fPut f w ns ys).1
  | [], _, _, _ => rfl
  | _ :: _, [], [], _ => rfl
  | _ :: _, [], _ :: _, h => by cases h
  | _ :: _, _ :: _, [], h => by cases h
  | n :: ns, x :: xs, y :: ys, h => by
    rw [fPut, fPut]
    by_cases q : n = f
    · rw [if_pos q, if_pos q]
    · rw [if_neg q, if_neg q, fPut_ns f v w ns xs ys (by simpa using h)]
section
variable {k : Kx} {H : Hp} {g : G} {f : Str}
theorem fGet_rep {d : D} : ∀ {ns : List Str} {ds : List D} {vs : List V}, RepL k H g ds vs → fGet f ns ds = some d → ∃ v, fGet f ns vs = some v ∧ Rep k H g d v
  | [], _, _, _, h => by cases h
  | _ :: _, [], _, _, h => by cases h
  | n :: ns, x :: ds, _, ⟨v, r, e, h1, h2⟩, h => by
    subst e
    rw [fGet] at h ⊢
    by_cases q : n = f
    · rw [if_pos q] at h ⊢; cases h; exact ⟨v, rfl, h1⟩
    · rw [if_neg q] at h ⊢; exact fGet_rep h2 h
theorem fGet_none {ns : List Str} : ∀ {ds : List D} {vs : List V}, RepL k H g ds vs → fGet f ns ds = none → fGet f ns vs = none := by
  induction ns with
  | nil => intros; rfl
  | cons n ns ih =>
    intro ds vs r h
    cases ds with
    | nil => cases (show vs = [] from r); rfl
    | cons d ds =>
      obtain ⟨v, t, e, h1, h2⟩ := r
      subst e
      rw [fGet] at h ⊢
      by_cases q : n = f
      · rw [if_pos q] at h; cases h
      · rw [if_neg q] at h ⊢; exact ih h2 h
theorem fPut_rep {d : D} {v : V} (h : Rep k H g d v) : ∀ {ns : List Str} {ds : List D} {vs : List V}, RepL k H g ds vs → RepL k H g (fPut f d ns ds).2 (fPut f v ns vs).2
  | [], _, _, _ => ⟨v, [], rfl, h, rfl⟩
  | _ :: _, [], vs, r => by cases (show vs = [] from r); exact ⟨v, [], rfl, h, rfl⟩
  | n :: ns, x :: ds, _, ⟨u, t, e, h1, h2⟩ => by
    subst e
    rw [fPut, fPut]
    by_cases q : n = f
    · rw [if_pos q, if_pos q]; exact ⟨v, t, rfl, h, h2⟩
    · rw [if_neg q, if_neg q]; exact ⟨u, _, rfl, h1, fPut_rep h h2⟩
end
/-- the classes of cs are plain and have no attribute f -/
def FldK (K : PySem.W.Frag) (mg : Str → Option Value) (cs : List Str) (f : Str) : Prop := ∀ c ∈ cs, ∃ C, mg c = some (.ref C) ∧ Cls K C ∧ NoAttr K C f
/-- the object, if it is an instance -/
def insOf (S : Sto) : D → Option (Str × List Str × List D)
  | .obj n => match S[n]? with
    | some (.ins c ns ds) => some (c, ns, ds)
    | _ => none
  | _ => none
theorem insOf_rep {k : Kx} {H : Hp} {g : G} {S : Sto} {d : D} {v : V} {c : Str} {ns : List Str} {ds : List D} (w : WF k H g S) (r : Rep k H g d v) (h : insOf S d = some (c, ns, ds)) :
    ∃ a C dx vs, v = .ref a ∧ k.mg c = some (.ref C) ∧ H a = some (.ins C dx (ns.zip vs)) ∧ RepL k H g ds vs := by
  cases d with
  | obj n =>
    obtain ⟨hn, rfl⟩ := r
    simp only [insOf] at h
    split at h
    · rename_i c' ns' ds' q
      cases h
      obtain ⟨C, dx, vs, h1, h2, h3⟩ := w.ob n _ q
      exact ⟨_, C, dx, vs, rfl, h1, h2, h3⟩
    · cases h
  | _ => cases h
def eFl (cs : List Str) (f : Str) (mo : EM) : EM := fun L S => (mo L S).bind fun d S1 => match insOf S1 d with
  | some (c, ns, ds) => if c ∈ cs then lift (fGet f ns ds) S1 else .no
  | none => .no
/-- o.f = e -/
def sFl (cs : List Str) (f : Str) (mo mv : EM) : SM := fun L S => (mv L S).st L fun d S1 => (mo L S1).st L fun o S2 => match o with
  | .obj n => match S2[n]? with
    | some (.ins c ns ds) => if c ∈ cs ∧ ns.length < 900 then .ok .nx L (S2.set n (.ins c (fPut f d ns ds).1 (fPut f d ns ds).2)) else .no
    | _ => .no
  | _ => .no
/-- o.f op= e -/
def sFlA (cs : List Str) (f : Str) (oo : D → D → Option D) (mo mv : EM) : SM := fun L S => (mo L S).st L fun o S1 => match o with
  | .obj n => match S1[n]? with
    | some (.ins c ns ds) => if c ∈ cs then match fGet f ns ds with
      | some x => (mv L S1).st L fun y S2 => match oo (deref S2 x) (deref S2 y) with
        | some z => match S2[n]? with
          | some (.ins c' ns' ds') => if c' = c ∧ ns'.length < 900 then .ok .nx L (S2.set n (.ins c' (fPut f z ns' ds').1 (fPut f z ns' ds').2)) else .no
          | _ => .no
        | none => .no
      | none => .no
      else .no
    | _ => .no
  | _ => .no
theorem zip_lt {α : Type} {ns : List Str} {vs : List α} (h : ns.length < 900) : (ns.zip vs).length < 1000 := by
  rw [List.length_zip]; omega
section
variable {X : Cx} {W : WX} {o e : Expr} {f : Str} {pos pos' tpos : Pos} {cs : List Str} {mo mv : EM}
theorem se_fld (h : FldK X.K X.mg cs f) (ho : SE X W o mo) (hb : attributeBase o f X.env (eval o X.env) = eval o X.env) : SE X W (.Attribute o f pos) (eFl cs f mo) :=
  PE.imp (pe_fld ho hb) fun σ H Q ⟨L, S, g, l, w, p⟩ => ⟨L, S, g, l, w, Post.bind p fun d S1 v H1 g1 e1 w1 r1 p1 => by
    split at p1
    · rename_i c ns ds q
      split at p1
      · rename_i hc
        obtain ⟨a, C, dx, vs, rfl, hC, ha, rl⟩ := insOf_rep w1 r1 q
        obtain ⟨C', hC', cl, na⟩ := h c hc
        have hC0 : X.mg c = some (.ref C) := hC
        rw [hC0] at hC'
        cases hC'
        cases z : fGet f ns ds with
        | none => rw [z] at p1; exact p1.elim
        | some d =>
          rw [z] at p1
          obtain ⟨v, hv, rv⟩ := fGet_rep rl z
          exact ⟨a, C, dx, _, v, rfl, ha, cl, na, by rw [fGet_zip]; exact hv, Post.ret p1 w1 rv⟩
      · exact p1.elim
    · exact p1.elim⟩
theorem ins_put {k : Kx} {H : Hp} {g : G} {S : Sto} {n : Nat} {c : Str} {ns : List Str} {ds : List D} {C dx : Addr} {vs : List V} {d : D} {v : V} (w : WF k H g S) (hn : S[n]? = some (.ins c ns ds)) (hC : k.mg c = some (.ref C))
    (rl : RepL k H g ds vs) (r : Rep k H g d v) : ORep k (upd H (g.ρ n) (.ins C dx (putF f v (ns.zip vs)))) g (.ins c (fPut f d ns ds).1 (fPut f d ns ds).2) (g.ρ n) := by
  have pe := w.pe (u := .ins C dx (putF f v (ns.zip vs))) hn
  refine ⟨C, dx, (fPut f v ns vs).2, hC, ?_, (fPut_rep r rl).mono pe _ _⟩
  rw [upd_same, fPut_zip, fPut_ns f v d ns vs ds rl.length]
theorem ss_fld (h : FldK X.K X.mg cs f) (ho : SE X W o mo) (he : SE X W e mv) (hs : swapsWith e (some (.Attribute o f pos')) pos.line X.env = pure false) : SS X W (.Assign [.Attribute o f pos'] e pos) (sFl cs f mo mv) :=
  PS.imp (ps_fld ho he hs) fun D σ H ⟨L, S, g, B, gB, fr, p⟩ =>
    ⟨L, S, g, fr.loc, fr.wf, st_e fr p fun d S1 v H1 g1 f1 e1 r p1 => ⟨L, S1, g1, f1.loc, f1.wf, st_e f1 p1 fun od S2 w H2 g2 f2 e2 r2 p2 => by
      split at p2
      · rename_i n
        obtain ⟨hn, rfl⟩ := r2
        split at p2
        · rename_i c ns ds q
          split at p2
          · rename_i hc
            obtain ⟨C, dx, vs, hC, ha, rl⟩ := f2.wf.ob n _ q
            obtain ⟨C', hC', cl, na⟩ := h c hc.1
            have hC0 : X.mg c = some (.ref C) := hC
            rw [hC0] at hC'
            cases hC'
            obtain ⟨f3, pe⟩ := f2.chgS q (ins_put (f := f) (dx := dx) f2.wf q hC rl (r.mono e2.toPExt _ _))
            exact ⟨_, C, dx, _, rfl, ha, cl, na, zip_lt hc.2, p2 σ _ g2 f3 pe⟩
          · exact p2.elim
        · exact p2.elim
      · exact p2.elim⟩⟩
end
end Rf
set_option Elab.async false
set_option linter.all false
set_option maxRecDepth 100000
set_option maxHeartbeats 1000000
namespace Rf
open PySem L2 TL
/-- m is, for the class c, a def that does F -/
structure MthC (X : Cx) (m : Str) (c : Str) (F : Fn) : Prop where
  ex : ∃ (C f : Addr) (fd : FuncData) (ps : List Str) (j : Nat), X.mg c = some (.ref C) ∧ Cls X.K C ∧ Meth X.K C m f ∧ FnOkG X.prog X.w X.K X.mg X.base (L2N.CX X.prog X.w) j f fd ps (spC (k0 X.K X.mg X.w) F) ∧ RoomG j X.A ∧ Binds X.K fd ps []
def MthT (X : Cx) (m : Str) (ms : List (Str × Fn)) : Prop := ∀ c F, ms.lookup c = some F → MthC X m c F
theorem mth_nil {X : Cx} {m : Str} : MthT X m [] := fun _ _ h => by cases h
theorem mth_cons {X : Cx} {m c : Str} {F : Fn} {ms : List (Str × Fn)} (h : MthC X m c F) (t : MthT X m ms) : MthT X m ((c, F) :: ms) := fun c' F' e => by
  rw [List.lookup_cons] at e
  split at e
  · rename_i q
    cases e
    rw [eq_of_beq q]
    exact h
  · exact t _ _ e
def eMt (m : Str) (ms : List (Str × Fn)) (mo : EM) (ma : Ls → Sto → R (List D)) : EM := fun L S => (mo L S).bind fun d S1 => match insOf S1 d with
  | some (c, ns, ds) => match ms.lookup c, fGet m ns ds with
    | some F, none => (ma L S1).bind fun as S2 => F (d :: as) S2
    | _, _ => .no
  | none => .no
section
variable {X : Cx} {W : WX} {o e : Expr} {m x : Str} {pos apos p : Pos} {es : List Expr} {ms : List (Str × Fn)} {mo : EM} {ma : Ls → Sto → R (List D)}
theorem meth_read {σ : L2.St} {H : Hp} {Q : VK} (T : MthT X m ms) (h : tE (kx X) W (eMt m ms mo ma) σ H Q) :
    tE (kx X) W mo σ H fun x H1 => ∃ a C dx fs f fd ps j F, x = .ref a ∧ H1 a = some (.ins C dx fs) ∧ Cls X.K C ∧ Meth X.K C m f ∧ FnOkG X.prog X.w X.K X.mg X.base (L2N.CX X.prog X.w) j f fd ps (spC (k0 X.K X.mg X.w) F) ∧ RoomG j X.A ∧ Binds X.K fd ps [] ∧
      fs.lookup m = none ∧ tAE (kx X) W ma σ H1 fun vs H2 => spC (k0 X.K X.mg X.w) F (x :: vs) H2 Q (L2.WE W σ) := by
  obtain ⟨L, S, g, l, w, p⟩ := h
  refine ⟨L, S, g, l, w, Post.bind p fun d S1 v H1 g1 e1 w1 r1 p1 => ?_⟩
  split at p1
  · rename_i c ns ds q
    split at p1
    · rename_i F hF hn
      obtain ⟨a, C, dx, vs, rfl, hC, ha, rl⟩ := insOf_rep w1 r1 q
      obtain ⟨C', f, fd, ps, j, hC', cl, mt, F', hr, hb⟩ := (T c F hF).ex
      have hC0 : X.mg c = some (.ref C) := hC
      rw [hC0] at hC'
      cases hC'
      refine ⟨a, C, dx, _, f, fd, ps, j, F, rfl, ha, cl, mt, F', hr, hb, by rw [fGet_zip]; exact fGet_none rl hn, L, S1, g1, l.ext e1, w1, Post.bind p1 fun as S2 us H2 g2 e2 w2 r2 p2 => ?_⟩
      exact spC.kc (k := kx X) rfl rfl rfl ⟨d :: as, S2, g2, .cons (r1.mono e2.toPExt _ _) r2, w2, p2⟩
    · exact p1.elim
  · exact p1.elim
theorem se_meth {pl : Sem Bool} (T : MthT X m ms) (tk : L2N.Takes X W) (ho : SE X W o mo) (ha : SAE X W (e :: es) ma) (hs : (e :: es).all noStar = true)
    (ht : eval (.Call (.Attribute o m apos) (e :: es) [] pos) X.env = (do
      let ov ← eval o X.env
      standAt apos.atName
      let (f, first) ← holding [ov] (getMethod ov m pl)
      callWith pos f first (backTo pos (starEach (e :: es) X.env)) (backToKw pos (keywordEach [] X.env)))) : SE X W (.Call (.Attribute o m apos) (e :: es) [] pos) (eMt m ms mo ma) := by
  refine ⟨fun pins s σ H Q I h => ?_⟩
  have hs' : noStar e = true ∧ es.all noStar = true := by rwa [List.all_cons, Bool.and_eq_true] at hs
  refine PySem.W.methodCall_KW (pl := pl) (thn (ho.run pins s σ H _ I (meth_read T h)) fun u s1 ⟨x, H1, I1, rx, a, C, dx, fs, f, fd, ps, j, F, ex, ea, c, hm, F', hr, hb, l, q⟩ => ?_) ht
  subst ex
  obtain rfl : u = Value.ref a := rx
  refine getmeth_ok I1 ea c hm l ?_
  refine PySem.W.callWith_K (first := [.ref a]) (h₀ := X.base) I.ok.mod.kin hm.kp (thn (ha.run pos pins s1 σ H1 _ I1 q) fun us s2 ⟨vs, H2, I2, r, q2⟩ => ⟨I2.kIn, ?_⟩) (star_cons hs'.1) (star_any hs'.2)
  exact run_fnG0 (us := .ref a :: us) (vs := .ref a :: vs) F' hr hb (L2N.passAt tk σ) I2 (.cons rfl r) q2
/-- the class c can be made; its maker does F -/
structure MkC (X : Cx) (c : Str) (F : Fn) : Prop where
  ex : ∃ (C f : Addr) (fd : FuncData) (ps : List Str) (j : Nat), X.mg c = some (.ref C) ∧ Mk X.K C f ∧ FnOkG X.prog X.w X.K X.mg X.base (L2N.CX X.prog X.w) j f fd ps (spC (k0 X.K X.mg X.w) F) ∧ RoomG (j + 1) X.A ∧ Binds X.K fd ps []
def mkR (n : Nat) : R D → R D
  | .ok .non S => .ok (.obj n) S
  | _ => .no
def eMk (c : Str) (F : Fn) (ma : Ls → Sto → R (List D)) : EM := fun L S => (ma L S).bind fun ds S1 => mkR S1.length (F (.obj S1.length :: ds) (S1 ++ [.ins c [] []]))
theorem no_cxF {P : Program} {w : World} {outer : List Env} {H : Hp} {s : Shared} {e : Value} {s' : Shared} (h : L2N.CX P w outer H s (fun _ _ _ => False) e s') : False := by
  obtain ⟨_, _, _, _, _, _, _, _, _, _, _, _, h⟩ := h
  exact h
theorem mk_sp {c : Str} {F : Fn} {C : Addr} {k : Kx} {ds : List D} {vs : List V} {S1 : Sto} {H1 : Hp} {g1 : G} {Q : VK} {Wf : Value → Option Addr → Hp → Prop} (hC : k.mg c = some (.ref C)) (w1 : WF k H1 g1 S1) (r1 : RepL k H1 g1 ds vs)
    (p1 : Post k (Rep k) H1 g1 Wf (mkR S1.length (F (.obj S1.length :: ds) (S1 ++ [.ins c [] []]))) Q) {x dx : Addr} (hx : H1 x = none) (hd : H1 dx = none) (hne : dx ≠ x) :
    spC k F (.ref x :: vs) (upd (upd H1 dx (.own x)) x (.ins C dx [])) (fun v H2 => v = .non ∧ Q (.ref x) H2) (fun _ _ _ => False) := by
  have e2 : Ext H1 g1 (upd H1 dx (.own x)) g1 := Ext.new hd
  have hx' : upd H1 dx (.own x) x = none := by rw [upd_ne (Ne.symm hne)]; exact hx
  have e3 : Ext (upd H1 dx (.own x)) g1 (upd (upd H1 dx (.own x)) x (.ins C dx [])) (g1.push x) := Ext.newPush hx'
  have w3 : WF k (upd (upd H1 dx (.own x)) x (.ins C dx [])) (g1.push x) (S1 ++ [.ins c [] []]) := (w1.new hd).newPush hx' ⟨C, dx, [], hC, upd_same, rfl⟩
  have rx : Rep k (upd (upd H1 dx (.own x)) x (.ins C dx [])) (g1.push x) (.obj S1.length) (.ref x) := ⟨by rw [w1.len]; exact Nat.lt_succ_self _, by
    rw [w1.len]
    show _ = V.ref (if g1.n = g1.n then x else g1.ρ g1.n)
    rw [if_pos rfl]⟩
  refine ⟨.obj S1.length :: ds, _, _, .cons rx (r1.mono (e2.trans e3).toPExt _ _), w3, ?_⟩
  cases q : F (.obj S1.length :: ds) (S1 ++ [.ins c [] []]) with
  | no => rw [q] at p1; exact p1.elim
  | ex y S => rw [q] at p1; exact p1.elim
  | ok d S2 =>
    rw [q] at p1
    cases d with
    | non => exact fun v H' g' e w r => ⟨r, p1 _ H' g' ((e2.trans e3).trans e) w (rx.mono e.toPExt _ _)⟩
    | _ => exact p1.elim
theorem run_mkG {pins : List (Addr × Obj)} {σ : L2.St} {H : Hp} {s : Shared} {Q : VK} {us : List Value} {vs : List V} {C f : Addr} {fd : FuncData} {ps : List Str} {j : Nat} {sp : Sp} (M : Mk X.K C f) (F : FnOkG X.prog X.w X.K X.mg X.base (L2N.CX X.prog X.w) j f fd ps sp) (hr : RoomG (j + 1) X.A) (hb : Binds X.K fd ps [])
    (I : Inv X pins σ H s) (r : Vals vs us) (h : ∀ x dx, H x = none → H dx = none → dx ≠ x → sp (.ref x :: vs) (upd (upd H dx (.own x)) x (.ins C dx [])) (fun v H2 => v = .non ∧ Q (.ref x) H2) (fun _ _ _ => False)) :
    wpAny (model X.prog X.w) X.A (call (.ref C) us) (EP X pins σ Q) X.xe s := by
  have hq := h (s.heap.objs.size + 1) s.heap.objs.size (I.hok.fresh (Nat.le_succ _)) (I.hok.fresh (Nat.le_refl _)) (Nat.ne_of_lt (Nat.lt_succ_self _))
  have I2 := Inv.made (C := C) I
  have r2 : Vals (V.ref (s.heap.objs.size + 1) :: vs) (Value.ref (s.heap.objs.size + 1) :: us) := .cons rfl r
  have b := hb _ (Value.ref (s.heap.objs.size + 1) :: us) I2.kIn (by rw [List.append_nil, ← r2.length]; exact F.len _ _ _ _ hq)
  rw [List.append_nil] at b
  have hr2 : RoomG j (X.A.under (.builtin "type.__call__" ⟨.ref C :: us, []⟩)) := ⟨hr.toRoom.make C us [], by
    have e : (Code.builtin "type.__call__" ⟨.ref C :: us, []⟩).guards = [] := rfl
    show pushGuards (Code.builtin "type.__call__" ⟨.ref C :: us, []⟩).guards (_ : Option (List Code)) = some []
    rw [e]
    exact hr.gd⟩
  refine wpAny_call (make_map (f := f) I.kIn M.makes M.init (beq_iff_eq.mp M.fn) (codeAny_mono (F.run _ X.stack _ _ ⟨Value.ref (s.heap.objs.size + 1) :: us, []⟩ _ _ _ _ hr2 (I2.env0.make C us []) b r2 hq) fun r s' hq' => ?_))
  match r, hq' with
  | .error e, hq' => exact (no_cxF hq').elim
  | .ok (.ret u), hq' =>
    obtain ⟨v, H', I3, rv, ev, q3⟩ := I2.after hq'
    subst ev
    exact ⟨rv, ⟨V.ref (s.heap.objs.size + 1), H', I3, rfl, q3⟩⟩
def tMkG (C : Addr) (sp : Sp) (t : TA) : TE := fun σ H Q => t σ H fun vs H1 => ∀ x dx, H1 x = none → H1 dx = none → dx ≠ x → sp (.ref x :: vs) (upd (upd H1 dx (.own x)) x (.ins C dx [])) (fun v H2 => v = .non ∧ Q (.ref x) H2) (fun _ _ _ => False)
theorem pe_mkG {C f : Addr} {fd : FuncData} {ps : List Str} {j : Nat} {sp : Sp} {t : TA} {c : Str} (M : Mk X.K C f) (F : FnOkG X.prog X.w X.K X.mg X.base (L2N.CX X.prog X.w) j f fd ps sp) (hr : RoomG (j + 1) X.A) (hg : Gl X c) (hm : X.mg c = some (.ref C)) (hb : Binds X.K fd ps [])
    (ha : PA X (e :: es) t) (hdb : (c == ("__debug__" : Str)) = false) (he : starEach (e :: es) X.env = (false, eval e X.env) :: starEach es X.env) (hpl : (backTo pos (starEach es X.env)).any (·.1) = false) : PE X (.Call (.Name c p) (e :: es) [] pos) (tMkG C sp t) :=
  ⟨fun pins s σ H Q I h => wpAny_Call_Name_kw (ld_glob I hg hm (PySem.W.callWith_K (h₀ := X.base) I.ok.mod.kin M.kp (thn (ha.run pos pins s σ H _ I h) fun us s1 ⟨vs, H1, I1, r, q⟩ => ⟨I1.kIn, run_mkG M F hr hb I1 r q⟩) he hpl) hdb)⟩
theorem se_make {c : Str} {F : Fn} (M : MkC X c F) (hg : Gl X c) (ha : SAE X W (e :: es) ma) (hs : (e :: es).all noStar = true) (hdb : (c == ("__debug__" : Str)) = false) : SE X W (.Call (.Name c p) (e :: es) [] pos) (eMk c F ma) := by
  obtain ⟨C, f, fd, ps, j, hC, mk, F', hr, hb⟩ := M.ex
  have hs' : noStar e = true ∧ es.all noStar = true := by rwa [List.all_cons, Bool.and_eq_true] at hs
  exact PE.imp (pe_mkG mk F' hr hg hC hb ha hdb (star_cons hs'.1) (star_any hs'.2)) fun σ H Q ⟨L, S, g, l, w, q⟩ =>
    ⟨L, S, g, l, w, Post.bind q fun ds S1 vs H1 g1 e1 w1 r1 p1 => fun x dx hx hd hne => spC.kc (k := kx X) rfl rfl rfl (mk_sp hC w1 r1 p1 hx hd hne)⟩
def eFnD (c : Fn) (dds : List D) (ma : Ls → Sto → R (List D)) : EM := fun L S => (ma L S).bind fun ds S1 => c (ds ++ dds) S1
def eFnK (c : Fn) (n m : Nat) (ma mk : Ls → Sto → R (List D)) : EM := fun L S => (ma L S).bind fun ds S1 => (mk L S1).bind fun zs S2 => if ds.length = n ∧ zs.length = m then match c (ds ++ zs) S2 with
  | .ok d S3 => .ok d S3
  | _ => .no
  else .no
def eCaL (i : Nat) (fs : List (Str × Fn)) (ma : Ls → Sto → R (List D)) : EM := fun L S => match L[i]? with
  | some (.v (.gl x)) => match fs.lookup x with
    | some F => (ma L S).bind F
    | none => .no
  | _ => .no
end
end Rf
set_option Elab.async false
set_option linter.all false
set_option maxRecDepth 100000
set_option maxHeartbeats 1000000
namespace Rf
open PySem L2 TL
/-- what is looked up: none where nothing is known -/
def dLook (S : Sto) (o y : D) : Option (Option D) := match o with
  | .obj n => match S[n]? with
    | some (.dK kvs) => (kKey y).map (dGetK kvs)
    | _ => none
  | _ => none
/-- {}: a new one -/
def eNwK : EM := fun _ S => .ok (.obj S.length) (S ++ [.dK []])
def eGetO (mo mk : EM) : EM := fun L S => (mo L S).bind fun o S1 => (mk L S1).bind fun y S2 => match dLook S2 o y with
  | some (some d) => .ok d S2
  | _ => .no
def eInO (neg : Bool) (mk mo : EM) : EM := fun L S => (mk L S).bind fun y S1 => (mo L S1).bind fun o S2 => match dLook S2 o y with
  | some r => .ok (.bl (neg != r.isSome)) S2
  | none => .no
/-- d.get(k, x) -/
def eGet2 (mo mk md : EM) : EM := fun L S => (mo L S).bind fun o S1 => match dLook S1 o (.int 0) with
  | some _ => (mk L S1).bind fun y S2 => (md L S2).bind fun z S3 => match dLook S3 o y with
    | some r => .ok (r.getD z) S3
    | none => .no
  | none => .no
/-- d[k] = v -/
def sPutD (mo mk mv : EM) : SM := fun L S => (mv L S).st L fun d S1 => (mo L S1).st L fun o S2 => (mk L S2).st L fun y S3 => match o, kKey y with
  | .obj n, some q => match S3[n]? with
    | some (.dK kvs) => if kvs.length < sizeLine then .ok .nx L (S3.set n (.dK (dPutK kvs q d))) else .no
    | _ => .no
  | _, _ => .no
/-- d.setdefault(k, v) -/
def eSetK (mo mk md : EM) : EM := fun L S => (mo L S).bind fun o S1 => match dLook S1 o (.int 0) with
  | some _ => (mk L S1).bind fun y S2 => (md L S2).bind fun z S3 => match o, kKey y with
    | .obj n, some q => match S3[n]? with
      | some (.dK kvs) => if kvs.length < sizeLine then match dGetK kvs q with
        | some d => .ok d S3
        | none => .ok z (S3.set n (.dK (dPutK kvs q z)))
        else .no
      | _ => .no
    | _, _ => .no
  | none => .no
section
variable {k : Kx} {H : Hp} {g : G} {S : Sto}
theorem KVK.look {q : Key} {kvs : DctK} {ws : List (Key × V)} (r : KVK k H g kvs ws) : (∀ d, dGetK kvs q = some d → ∃ v, valV ws q = some v ∧ Rep k H g d v) ∧ (dGetK kvs q = none → valV ws q = none) := by
  refine ⟨fun d h => r.get h, fun h => ?_⟩
  have e := r.any (q := q)
  rw [valV_any] at e
  have e2 : (kvs.any fun kv => decide (kv.1 = q)) = (dGetK kvs q).isSome := by
    unfold dGetK
    rw [Option.isSome_map, Bool.eq_iff_iff, List.any_eq_true, List.find?_isSome]
  rw [e2, h] at e
  cases z : valV ws q with
  | none => rfl
  | some v => rw [z] at e; cases e
end
end Rf
set_option Elab.async false
set_option linter.all false
set_option maxRecDepth 100000
set_option maxHeartbeats 1000000
namespace Rf
open PySem L2 TL
mutual
def kN : D → Option NestedKey
  | .non => some .none
  | .int i => some (.num i)
  | .str x => some (.text ⟨x.toArray⟩)
  | .tup ds => (kNs ds).map .tup
  | _ => none
def kNs : List D → Option (List NestedKey)
  | [] => some []
  | d :: ds => match kN d, kNs ds with
    | some k, some ks => some (k :: ks)
    | _, _ => none
end
/-- a key of such a dict: a tuple, not too deep -/
def kNk : D → Option NestedKey
  | .tup ds => (kN (.tup ds)).bind fun q => if q.depth ≤ 8 then some q else none
  | _ => none
abbrev DctN := List (NestedKey × D)
def nGet (kvs : DctN) (q : NestedKey) : Option D := (kvs.find? fun kv => decide (kv.1 = q)).map (·.2)
def eNwN : EM := fun _ S => .ok (.obj S.length) (S ++ [.dN []])
def isDN (S : Sto) : D → Bool
  | .obj n => match S[n]? with
    | some (.dN _) => true
    | _ => false
  | _ => false
def eSetN (mo mk md : EM) : EM := fun L S => (mo L S).bind fun o S1 => if isDN S1 o = true then (mk L S1).bind fun y S2 => (md L S2).bind fun z S3 => match o, kNk y with
    | .obj n, some q => match S3[n]? with
      | some (.dN kvs) => if kvs.length < sizeLine then match nGet kvs q with
        | some d => .ok d S3
        | none => .ok z (S3.set n (.dN (kvs ++ [(q, z)])))
        else .no
      | _ => .no
    | _, _ => .no
  else .no
end Rf
set_option Elab.async false
set_option linter.all false
set_option maxRecDepth 100000
set_option maxHeartbeats 1000000
namespace Rf
open PySem L2 TL
structure PSa (X : Cx) (c : Code) (st : List Stmt) (t : TS) : Prop where
  run : ∀ (pins : List (Addr × Obj)) (s : Shared) (σ : L2.St) (H : Hp) (D : Ends), Inv X pins σ H s → t D σ H → PySem.wpAt (model X.prog X.w) X.A c (execs st X.env) (L2.SP X pins D) X.xe s
theorem PSa.imp {X : Cx} {c : Code} {st : List Stmt} {t t' : TS} (h : PSa X c st t) (i : ∀ D σ H, t' D σ H → t D σ H) : PSa X c st t' := ⟨fun pins s σ H D I q => h.run pins s σ H D I (i D σ H q)⟩
def eSup (cs : List Str) (F : Fn) (ma : Ls → Sto → R (List D)) : EM := fun L S => match L[(0 : Nat)]? with
  | some (.v d) => match insOf S d with
    | some (c, _, _) => if c ∈ cs then (ma L S).bind fun as S1 => F (d :: as) S1 else .no
    | none => .no
  | _ => .no
end Rf
set_option Elab.async false
set_option linter.all false
set_option maxRecDepth 100000
set_option maxHeartbeats 1000000
namespace Rf
open PySem L2 TL
variable {xp : ExP}
section
variable {P : D → Sto → Prop} {PL : List D → Sto → Prop} {PS : Fl → Ls → Sto → Prop} {L : Ls} {S : Sto} {i n nn : Nat} {a b c m : EM} {ma mk : Ls → Sto → R (List D)} {cs : List Str} {f x : Str} {ms fs : List (Str × Fn)} {F : Fn} {dds : List D} {oo : D → D → Option D} {ng : Bool}
theorem r_fl (h : wp (a L S) fun d S1 => ∃ c ns ds, insOf S1 d = some (c, ns, ds) ∧ c ∈ cs ∧ ∃ z, fGet f ns ds = some z ∧ P z S1) : wp (eFl cs f a L S) P := by
  unfold eFl
  rw [wp_bind]
  refine h.mono fun d S1 ⟨c, ns, ds, e, hc, z, e2, h⟩ => ?_
  rw [e]
  dsimp only
  rw [if_pos hc]
  exact r_lift ⟨z, e2, h⟩
theorem q_fl (h : wp (b L S) fun d S1 => wp (a L S1) fun o S2 => ∃ n c ns ds, o = .obj n ∧ S2[n]? = some (.ins c ns ds) ∧ c ∈ cs ∧ ns.length < 900 ∧ PS .nx L (S2.set n (.ins c (fPut f d ns ds).1 (fPut f d ns ds).2))) : wps (sFl cs f a b L S) PS := by
  unfold sFl
  rw [wps_st]
  refine h.mono fun d S1 h => ?_
  rw [wps_st]
  refine h.mono fun o S2 ⟨n, c, ns, ds, e, e1, hc, hl, h⟩ => ?_
  subst e
  simp only [e1]
  rw [if_pos ⟨hc, hl⟩]
  exact ⟨h⟩
theorem q_flA (h : wp (a L S) fun o S1 => ∃ n c ns ds x, o = .obj n ∧ S1[n]? = some (.ins c ns ds) ∧ c ∈ cs ∧ fGet f ns ds = some x ∧ wp (b L S1) fun y S2 => ∃ z, oo (deref S2 x) (deref S2 y) = some z ∧
    ∃ ns' ds', S2[n]? = some (.ins c ns' ds') ∧ ns'.length < 900 ∧ PS .nx L (S2.set n (.ins c (fPut f z ns' ds').1 (fPut f z ns' ds').2))) : wps (sFlA cs f oo a b L S) PS := by
  unfold sFlA
  rw [wps_st]
  refine h.mono fun o S1 ⟨n, c, ns, ds, x, e, e1, hc, e2, h⟩ => ?_
  subst e
  simp only [e1]
  rw [if_pos hc, e2]
  dsimp only
  rw [wps_st]
  refine h.mono fun y S2 ⟨z, e3, ns', ds', e4, hl, h⟩ => ?_
  rw [e3]
  simp only [e4]
  rw [if_pos ⟨trivial, hl⟩]
  exact ⟨h⟩
theorem r_mt (h : wp (a L S) fun d S1 => ∃ c ns ds, insOf S1 d = some (c, ns, ds) ∧ ∃ F, ms.lookup c = some F ∧ fGet x ns ds = none ∧ wp (ma L S1) fun as S2 => wp (F (d :: as) S2) P) : wp (eMt x ms a ma L S) P := by
  unfold eMt
  rw [wp_bind]
  refine h.mono fun d S1 ⟨c, ns, ds, e, F, e1, e2, h⟩ => ?_
  rw [e]
  simp only [e1, e2]
  rw [wp_bind]
  exact h
theorem r_mk (h : wp (ma L S) fun ds S1 => @wp noXP _ (F (.obj S1.length :: ds) (S1 ++ [.ins x [] []])) fun d S2 => d = .non ∧ P (.obj S1.length) S2) : wp (eMk x F ma L S) P := by
  unfold eMk
  rw [wp_bind]
  refine h.mono fun ds S1 h => ?_
  obtain ⟨d, S2, e, rfl, h⟩ := h.ex
  rw [e]
  exact ⟨h⟩
theorem r_fnD (h : wp (ma L S) fun ds S1 => wp (F (ds ++ dds) S1) P) : wp (eFnD F dds ma L S) P := by
  unfold eFnD
  rw [wp_bind]
  exact h
theorem r_fnK (h : wp (ma L S) fun ds S1 => wp (mk L S1) fun zs S2 => ds.length = n ∧ zs.length = nn ∧ @wp noXP _ (F (ds ++ zs) S2) P) : wp (eFnK F n nn ma mk L S) P := by
  unfold eFnK
  rw [wp_bind]
  refine h.mono fun ds S1 h => ?_
  rw [wp_bind]
  refine h.mono fun zs S2 ⟨h1, h2, h⟩ => ?_
  rw [if_pos ⟨h1, h2⟩]
  obtain ⟨d, S3, e, h⟩ := h.ex
  rw [e]
  exact ⟨h⟩
theorem r_caL (h : ∃ x, L[i]? = some (.v (.gl x)) ∧ ∃ F, fs.lookup x = some F ∧ wp (ma L S) fun ds S1 => wp (F ds S1) P) : wp (eCaL i fs ma L S) P := by
  obtain ⟨x, e, F, e1, h⟩ := h
  unfold eCaL
  rw [e]
  simp only [e1]
  rw [wp_bind]
  exact h
theorem r_nwK (h : P (.obj S.length) (S ++ [.dK []])) : wp (eNwK L S) P := ⟨h⟩
theorem r_nwN (h : P (.obj S.length) (S ++ [.dN []])) : wp (eNwN L S) P := ⟨h⟩
theorem r_getO (h : wp (a L S) fun o S1 => wp (b L S1) fun y S2 => ∃ d, dLook S2 o y = some (some d) ∧ P d S2) : wp (eGetO a b L S) P := by
  unfold eGetO
  rw [wp_bind]
  refine h.mono fun o S1 h => ?_
  rw [wp_bind]
  refine h.mono fun y S2 ⟨d, e, h⟩ => ?_
  rw [e]
  exact ⟨h⟩
theorem r_inO (h : wp (a L S) fun y S1 => wp (b L S1) fun o S2 => ∃ r, dLook S2 o y = some r ∧ P (.bl (ng != r.isSome)) S2) : wp (eInO ng a b L S) P := by
  unfold eInO
  rw [wp_bind]
  refine h.mono fun o S1 h => ?_
  rw [wp_bind]
  refine h.mono fun y S2 ⟨d, e, h⟩ => ?_
  rw [e]
  exact ⟨h⟩
theorem r_get2 (h : wp (a L S) fun o S1 => (∃ r, dLook S1 o (.int 0) = some r) ∧ wp (b L S1) fun y S2 => wp (c L S2) fun z S3 => ∃ r, dLook S3 o y = some r ∧ P (r.getD z) S3) : wp (eGet2 a b c L S) P := by
  unfold eGet2
  rw [wp_bind]
  refine h.mono fun o S1 ⟨⟨r, e⟩, h⟩ => ?_
  rw [e]
  dsimp only
  rw [wp_bind]
  refine h.mono fun y S2 h => ?_
  rw [wp_bind]
  refine h.mono fun z S3 ⟨r, e, h⟩ => ?_
  rw [e]
  exact ⟨h⟩
theorem q_putD (h : wp (c L S) fun d S1 => wp (a L S1) fun o S2 => wp (b L S2) fun y S3 => ∃ n q kvs, o = .obj n ∧ kKey y = some q ∧ S3[n]? = some (.dK kvs) ∧ kvs.length < sizeLine ∧ PS .nx L (S3.set n (.dK (dPutK kvs q d)))) : wps (sPutD a b c L S) PS := by
  unfold sPutD
  rw [wps_st]
  refine h.mono fun d S1 h => ?_
  rw [wps_st]
  refine h.mono fun o S2 h => ?_
  rw [wps_st]
  refine h.mono fun y S3 ⟨n, q, kvs, e, e1, e2, hl, h9⟩ => ?_
  subst e
  simp only [e1, e2]
  rw [if_pos hl]
  exact ⟨h9⟩
theorem r_setK (h : wp (a L S) fun o S1 => (∃ r, dLook S1 o (.int 0) = some r) ∧ wp (b L S1) fun y S2 => wp (c L S2) fun z S3 => ∃ n q kvs, o = .obj n ∧ kKey y = some q ∧ S3[n]? = some (.dK kvs) ∧ kvs.length < sizeLine ∧
    (∀ d, dGetK kvs q = some d → P d S3) ∧ (dGetK kvs q = none → P z (S3.set n (.dK (dPutK kvs q z))))) : wp (eSetK a b c L S) P := by
  unfold eSetK
  rw [wp_bind]
  refine h.mono fun o S1 ⟨⟨r, e⟩, h⟩ => ?_
  rw [e]
  dsimp only
  rw [wp_bind]
  refine h.mono fun y S2 h => ?_
  rw [wp_bind]
  refine h.mono fun z S3 ⟨n, q, kvs, e0, e1, e2, hl, h1, h2⟩ => ?_
  subst e0
  simp only [e1, e2]
  rw [if_pos hl]
  cases g : dGetK kvs q with
  | none => exact ⟨h2 g⟩
  | some d => exact ⟨h1 d g⟩
theorem r_setN (h : wp (a L S) fun o S1 => isDN S1 o = true ∧ wp (b L S1) fun y S2 => wp (c L S2) fun z S3 => ∃ n q kvs, o = .obj n ∧ kNk y = some q ∧ S3[n]? = some (.dN kvs) ∧ kvs.length < sizeLine ∧
    (∀ d, nGet kvs q = some d → P d S3) ∧ (nGet kvs q = none → P z (S3.set n (.dN (kvs ++ [(q, z)]))))) : wp (eSetN a b c L S) P := by
  unfold eSetN
  rw [wp_bind]
  refine h.mono fun o S1 ⟨e, h⟩ => ?_
  rw [if_pos e]
  rw [wp_bind]
  refine h.mono fun y S2 h => ?_
  rw [wp_bind]
  refine h.mono fun z S3 ⟨n, q, kvs, e0, e1, e2, hl, h1, h2⟩ => ?_
  subst e0
  simp only [e1, e2]
  rw [if_pos hl]
  cases g : nGet kvs q with
  | none => exact ⟨h2 g⟩
  | some d => exact ⟨h1 d g⟩
theorem r_sup (h : ∃ d, L[(0 : Nat)]? = some (.v d) ∧ ∃ c ns ds, insOf S d = some (c, ns, ds) ∧ c ∈ cs ∧ wp (ma L S) fun as S1 => wp (F (d :: as) S1) P) : wp (eSup cs F ma L S) P := by
  obtain ⟨d, e, c, ns, ds, e1, hc, h⟩ := h
  unfold eSup
  rw [e]
  simp only [e1]
  rw [if_pos hc, wp_bind]
  exact h
theorem q_appO (h : wp (a L S) fun o S1 => ∃ n ds0, o = .obj n ∧ S1[n]? = some (.lst ds0) ∧ wp (b L S1) fun d S2 => ∃ ds, S2[n]? = some (.lst ds) ∧ ds.length < sizeLine ∧ PS .nx L (S2.set n (.lst (ds ++ [d])))) : wps (sAppO a b L S) PS := by
  unfold sAppO
  rw [wps_st]
  refine h.mono fun o S1 ⟨n, ds0, e, e1, h⟩ => ?_
  subst e
  simp only [e1]
  rw [wps_st]
  refine h.mono fun d S2 ⟨ds, e2, hl, h⟩ => ?_
  simp only [e2]
  rw [if_pos hl]
  exact ⟨h⟩
instance : Wp (eFl cs f a L S) P (wp (a L S) fun d S1 => ∃ c ns ds, insOf S1 d = some (c, ns, ds) ∧ c ∈ cs ∧ ∃ z, fGet f ns ds = some z ∧ P z S1) := ⟨r_fl⟩
instance : Ws (sFl cs f a b L S) PS (wp (b L S) fun d S1 => wp (a L S1) fun o S2 => ∃ n c ns ds, o = .obj n ∧ S2[n]? = some (.ins c ns ds) ∧ c ∈ cs ∧ ns.length < 900 ∧ PS .nx L (S2.set n (.ins c (fPut f d ns ds).1 (fPut f d ns ds).2))) := ⟨q_fl⟩
instance : Ws (sFlA cs f oo a b L S) PS (wp (a L S) fun o S1 => ∃ n c ns ds x, o = .obj n ∧ S1[n]? = some (.ins c ns ds) ∧ c ∈ cs ∧ fGet f ns ds = some x ∧ wp (b L S1) fun y S2 => ∃ z, oo (deref S2 x) (deref S2 y) = some z ∧
    ∃ ns' ds', S2[n]? = some (.ins c ns' ds') ∧ ns'.length < 900 ∧ PS .nx L (S2.set n (.ins c (fPut f z ns' ds').1 (fPut f z ns' ds').2))) := ⟨q_flA⟩
instance : Wp (eMt x ms a ma L S) P (wp (a L S) fun d S1 => ∃ c ns ds, insOf S1 d = some (c, ns, ds) ∧ ∃ F, ms.lookup c = some F ∧ fGet x ns ds = none ∧ wp (ma L S1) fun as S2 => wp (F (d :: as) S2) P) := ⟨r_mt⟩
instance : Wp (eMk x F ma L S) P (wp (ma L S) fun ds S1 => @wp noXP _ (F (.obj S1.length :: ds) (S1 ++ [.ins x [] []])) fun d S2 => d = .non ∧ P (.obj S1.length) S2) := ⟨r_mk⟩
instance : Wp (eFnD F dds ma L S) P (wp (ma L S) fun ds S1 => wp (F (ds ++ dds) S1) P) := ⟨r_fnD⟩
instance : Wp (eFnK F n nn ma mk L S) P (wp (ma L S) fun ds S1 => wp (mk L S1) fun zs S2 => ds.length = n ∧ zs.length = nn ∧ @wp noXP _ (F (ds ++ zs) S2) P) := ⟨r_fnK⟩
instance : Wp (eCaL i fs ma L S) P (∃ x, L[i]? = some (.v (.gl x)) ∧ ∃ F, fs.lookup x = some F ∧ wp (ma L S) fun ds S1 => wp (F ds S1) P) := ⟨r_caL⟩
instance : Wp (eNwK L S) P (P (.obj S.length) (S ++ [.dK []])) := ⟨r_nwK⟩
instance : Wp (eNwN L S) P (P (.obj S.length) (S ++ [.dN []])) := ⟨r_nwN⟩
instance : Wp (eGetO a b L S) P (wp (a L S) fun o S1 => wp (b L S1) fun y S2 => ∃ d, dLook S2 o y = some (some d) ∧ P d S2) := ⟨r_getO⟩
instance : Wp (eInO ng a b L S) P (wp (a L S) fun y S1 => wp (b L S1) fun o S2 => ∃ r, dLook S2 o y = some r ∧ P (.bl (ng != r.isSome)) S2) := ⟨r_inO⟩
instance : Wp (eGet2 a b c L S) P (wp (a L S) fun o S1 => (∃ r, dLook S1 o (.int 0) = some r) ∧ wp (b L S1) fun y S2 => wp (c L S2) fun z S3 => ∃ r, dLook S3 o y = some r ∧ P (r.getD z) S3) := ⟨r_get2⟩
instance : Ws (sPutD a b c L S) PS (wp (c L S) fun d S1 => wp (a L S1) fun o S2 => wp (b L S2) fun y S3 => ∃ n q kvs, o = .obj n ∧ kKey y = some q ∧ S3[n]? = some (.dK kvs) ∧ kvs.length < sizeLine ∧ PS .nx L (S3.set n (.dK (dPutK kvs q d)))) := ⟨q_putD⟩
instance : Wp (eSetK a b c L S) P (wp (a L S) fun o S1 => (∃ r, dLook S1 o (.int 0) = some r) ∧ wp (b L S1) fun y S2 => wp (c L S2) fun z S3 => ∃ n q kvs, o = .obj n ∧ kKey y = some q ∧ S3[n]? = some (.dK kvs) ∧ kvs.length < sizeLine ∧
    (∀ d, dGetK kvs q = some d → P d S3) ∧ (dGetK kvs q = none → P z (S3.set n (.dK (dPutK kvs q z))))) := ⟨r_setK⟩
instance : Wp (eSetN a b c L S) P (wp (a L S) fun o S1 => isDN S1 o = true ∧ wp (b L S1) fun y S2 => wp (c L S2) fun z S3 => ∃ n q kvs, o = .obj n ∧ kNk y = some q ∧ S3[n]? = some (.dN kvs) ∧ kvs.length < sizeLine ∧
    (∀ d, nGet kvs q = some d → P d S3) ∧ (nGet kvs q = none → P z (S3.set n (.dN (kvs ++ [(q, z)]))))) := ⟨r_setN⟩
instance : Wp (eSup cs F ma L S) P (∃ d, L[(0 : Nat)]? = some (.v d) ∧ ∃ c ns ds, insOf S d = some (c, ns, ds) ∧ c ∈ cs ∧ wp (ma L S) fun as S1 => wp (F (d :: as) S1) P) := ⟨r_sup⟩
end
end Rf
set_option Elab.async false
set_option linter.all false
set_option maxRecDepth 100000
set_option maxHeartbeats 1000000
namespace Rf
open PySem L2 TL
structure MthIn (P : Program) (w : World) (K : PySem.W.Frag) (mg : Str → Option Value) (base : Heap) (D m : Str) (j : Nat) (c : Fn) : Prop where
  ex : ∃ (fd : FuncData) (ps : List Str), FnOkG P w K mg base (L2N.CX P w) j (He.ma K (He.ga K D) m) fd ps (spC (k0 K mg w) c) ∧ Binds K fd ps []
/-- the class c has the method m of the class D -/
def MthF (K : PySem.W.Frag) (mg : Str → Option Value) (c D m : Str) : Prop := ∃ C, mg c = some (.ref C) ∧ Cls K C ∧ Meth K C m (He.ma K (He.ga K D) m)
theorem MthIn.at {P : Program} {w : World} {K : PySem.W.Frag} {mg : Str → Option Value} {base : Heap} {D m c : Str} {i j : Nat} {F : Fn} {X : Cx} (h : MthIn P w K mg base D m j F) (f : MthF K mg c D m) (hr : RoomG i X.A) (hl : j ≤ i)
    (h1 : X.prog = P) (h2 : X.w = w) (h3 : X.K = K) (h4 : X.mg = mg) (h5 : X.base = base) : MthC X m c F := by
  subst h1 h2 h3 h4 h5
  obtain ⟨fd, ps, F, hb⟩ := h.ex
  obtain ⟨C, hC, cl, mt⟩ := f
  exact ⟨C, _, fd, ps, j, hC, cl, mt, F, hr.mono hl, hb⟩
/-- the class c is made by the maker of the class D -/
def MkF (K : PySem.W.Frag) (mg : Str → Option Value) (c D : Str) : Prop := ∃ C, mg c = some (.ref C) ∧ Mk K C (He.ma K (He.ga K D) "__init__")
theorem MthIn.mkC {P : Program} {w : World} {K : PySem.W.Frag} {mg : Str → Option Value} {base : Heap} {D c : Str} {i j : Nat} {F : Fn} {X : Cx} (h : MthIn P w K mg base D "__init__" j F) (f : MkF K mg c D) (hr : RoomG i X.A) (hl : j + 1 ≤ i)
    (h1 : X.prog = P) (h2 : X.w = w) (h3 : X.K = K) (h4 : X.mg = mg) (h5 : X.base = base) : MkC X c F := by
  subst h1 h2 h3 h4 h5
  obtain ⟨fd, ps, F, hb⟩ := h.ex
  obtain ⟨C, hC, mk⟩ := f
  exact ⟨C, _, fd, ps, j, hC, mk, F, hr.mono hl, hb⟩
/-- where a method stands -/
def MDef (K : PySem.W.Frag) (D m qual : Str) (st : Stmt) : Prop := ∃ fd : FuncData, FunD K m qual (defArgs st) (defBody st) (defScope st) [] [] (He.ma K (He.ga K D) m) fd
/-- the i-th statement of a class's body -/
def mthOf (i : Nat) : Stmt → Stmt
  | .ClassDef _ _ _ body _ _ _ _ _ _ _ => body.getD i (.Pass ⟨0, 0, 0, 0⟩)
  | s => s
theorem fldK_nil {K : PySem.W.Frag} {mg : Str → Option Value} {f : Str} : FldK K mg [] f := fun c h => by cases h
theorem fldK_cons {K : PySem.W.Frag} {mg : Str → Option Value} {f c : Str} {cs : List Str} (h : ∃ C, mg c = some (.ref C) ∧ Cls K C ∧ NoAttr K C f) (t : FldK K mg cs f) : FldK K mg (c :: cs) f := fun c' h' => by
  rcases List.mem_cons.mp h' with rfl | h'
  · exact h
  · exact t c' h'
section
variable {fa : List He.Fa} {fn : List He.DefD} {K : PySem.W.Frag} {h : Heap} {mg : Str → Option Value} {c D m f qual : Str} {st : Stmt}
theorem mdef_at (c : He.SaysD fa fn K) (h1 : (⟨(D, some m), m, qual, defArgs st, defBody st, defScope st, [], []⟩ : He.DefD) ∈ fn) : MDef K D m qual st := by
  obtain ⟨fd, F⟩ := c.defs h1
  exact ⟨fd, F⟩
theorem fld_at (X : K.In h) (G : h.Ns mainGlobals mg) (q : He.SaysD fa fn K) (h1 : He.Fa.glo c ∈ fa) (h2 : He.Fa.cls c ∈ fa) (h3 : He.Fa.noat c f ∈ fa) : ∃ C, mg c = some (.ref C) ∧ Cls K C ∧ NoAttr K C f :=
  ⟨_, He.glo_ok X G (q.facts h1), He.cls_ok (q.facts h2), He.noat_ok (q.facts h3)⟩
theorem mthF_at (X : K.In h) (G : h.Ns mainGlobals mg) (q : He.SaysD fa fn K) (h1 : He.Fa.glo c ∈ fa) (h2 : He.Fa.cls c ∈ fa) (h3 : He.Fa.meth c m ∈ fa) (e : decide (He.ma K (He.ga K c) m = He.ma K (He.ga K D) m) = true) : MthF K mg c D m :=
  ⟨_, He.glo_ok X G (q.facts h1), He.cls_ok (q.facts h2), by rw [← of_decide_eq_true e]; exact He.meth_ok (q.facts h3)⟩
theorem mkF_at (X : K.In h) (G : h.Ns mainGlobals mg) (q : He.SaysD fa fn K) (h1 : He.Fa.glo c ∈ fa) (h3 : He.Fa.mkr c ∈ fa) (e : decide (He.ma K (He.ga K c) "__init__" = He.ma K (He.ga K D) "__init__") = true) : MkF K mg c D :=
  ⟨_, He.glo_ok X G (q.facts h1), by rw [← of_decide_eq_true e]; exact He.mkr_ok (q.facts h3)⟩
end
abbrev FnS : Type := Option (Str × Str × Arguments × FuncBody × Scope × Addr × List Str × Addr)
def fnS (K : PySem.W.Frag) (p : Str × Option Str) : FnS := match K.lookup (He.fAd K p) with
  | some ⟨_, _, .func fd, _⟩ => some (fd.name, fd.qualname, fd.params, fd.body, fd.scope, fd.globals, fd.closure.map (·.1), fd.builtins)
  | _ => none
def valS (d : He.DefD) : FnS := some (d.name, d.qual, d.params, .stmts d.body, d.scope, mainGlobals, ["__class__"], builtinsNs)
def frS (n : Nat) (g : Addr → Option Obj) : PySem.W.Frag := He.frG g (He.asD g n ++ [PySem.cStatics])
def hookS (n : Nat) (fa : List He.Fa) (fn fs : List He.DefD) (ts : List He.Tab) (ck : PySem.W.Frag → Bool) : PySem.W.Hook where
  α := He.AlT × Bool × List FnS
  obs := fun s => (He.obsT fa fn ts (frS n s.heap.get?), ck (frS n s.heap.get?), fs.map fun d => fnS (frS n s.heap.get?) d.at_)
  val := fun w => (He.valT fn ts w, true, fs.map valS)
  says := fun w h => ∃ K : PySem.W.Frag, K.In h ∧ He.SaysT fa fn ts w K ∧ ck K = true ∧ (fs.map fun d => fnS K d.at_) = fs.map valS
  of := fun w s e => ⟨frS n s.heap.get?, He.frG_in, congrArg (fun z : He.AlT × Bool × List FnS => z.1) e, congrArg (fun z : He.AlT × Bool × List FnS => z.2.1) e, congrArg (fun z : He.AlT × Bool × List FnS => z.2.2) e⟩
  keeps := fun _ _ _ ⟨K, hK, c⟩ k => ⟨K, PySem.W.Frag.In.keeps hK k, c⟩
def obS (n : Nat) (fa : List He.Fa) (fn fs : List He.DefD) (ts : List He.Tab) (ck : PySem.W.Frag → Bool) (g : Addr → Option Obj) : He.AlT × Bool × List FnS := (He.obsT fa fn ts (frS n g), ck (frS n g), fs.map fun d => fnS (frS n g) d.at_)
theorem obS_eq {n : Nat} {fa : List He.Fa} {fn fs : List He.DefD} {ts : List He.Tab} {ck : PySem.W.Frag → Bool} {g : Addr → Option Obj} {s : Shared} (h : ∀ a, g a = s.heap.get? a) : obS n fa fn fs ts ck g = (hookS n fa fn fs ts ck).obs s := by
  have e : g = s.heap.get? := funext h
  rw [e] <;> rfl
end Rf
set_option Elab.async false
set_option linter.all false
set_option maxRecDepth 100000
set_option maxHeartbeats 1000000
namespace Rf
open PySem L2 TL
theorem un64 {u c : Nat} (h : u + 64 < c) : u + 60 < c := by omega
mutual
def dD : D → Option PyData
  | .non => some .none
  | .bl b => some (.bool b)
  | .int i => some (.int i)
  | .str x => some (.str ⟨x.toArray⟩)
  | .tup ds => (dDs ds).map .tuple
  | .lst ds => (dDs ds).map .list
  | _ => none
def dDs : List D → Option (List PyData)
  | [] => some []
  | d :: ds => match dD d, dDs ds with
    | some k, some ks => some (k :: ks)
    | _, _ => none
end
def reprD (p : PyData) : Option (List Nat) := if p.showable = true ∧ p.shown.length ≤ sizeLine ∧ p.depth ≤ 50 then some p.shown.cps.toList else none
def bRepr : List D → Option D
  | [.tup ds] => (dD (.tup ds)).bind fun p => (reprD p).map .str
  | [.lst ds] => (dD (.lst ds)).bind fun p => (reprD p).map .str
  | _ => none
mutual
theorem noDict : ∀ (d : D) (p : PyData), dD d = some p → p.hasDict = false
  | .non, _, h => by simp only [dD] at h; cases h; rfl
  | .bl _, _, h => by simp only [dD] at h; cases h; rfl
  | .int _, _, h => by simp only [dD] at h; cases h; rfl
  | .str _, _, h => by simp only [dD] at h; cases h; rfl
  | .tup ds, _, h => by
    simp only [dD, Option.map_eq_some_iff] at h
    obtain ⟨ps, h, rfl⟩ := h
    simp only [PyData.hasDict]
    exact noDicts ds ps h
  | .lst ds, _, h => by
    simp only [dD, Option.map_eq_some_iff] at h
    obtain ⟨ps, h, rfl⟩ := h
    simp only [PyData.hasDict]
    exact noDicts ds ps h
  | .obj _, _, h => by simp only [dD] at h; cases h
  | .gl _, _, h => by simp only [dD] at h; cases h
  | .ty _, _, h => by simp only [dD] at h; cases h
  | .scr _, _, h => by simp only [dD] at h; cases h
  | .edc, _, h => by simp only [dD] at h; cases h
  | .ins _ _ _, _, h => by simp only [dD] at h; cases h
theorem noDicts : ∀ (ds : List D) (ps : List PyData), dDs ds = some ps → PyData.hasDictAll ps = false
  | [], _, h => by simp only [dDs] at h; cases h; rfl
  | d :: ds, ps, h => by
    simp only [dDs] at h
    split at h
    · rename_i q qs h1 h2
      cases h
      simp only [PyData.hasDictAll, noDict d q h1, noDicts ds qs h2, Bool.or_self]
    · cases h
end
section
variable {X : Cx} {pins : List (Addr × Obj)} {σ : L2.St} {H : Hp} {s : Shared} {g : G}
theorem tup_heap (I : Inv X pins σ H s) {b : Addr} {vs : List V} (t : TupAt X.K H b vs) : ∃ (o : Obj) (its : List Value) (n : Nat), Vals vs its ∧ s.heap.get? b = some o ∧ o.cls = .type "tuple" ∧ o.data = .seq its.toArray n := by
  obtain ⟨its, rv, hl, hz⟩ := I.tuple t.sq
  obtain ⟨o, h1, h2, n, h3⟩ := hl
  exact ⟨o, its, n, rv, h1, h2, h3⟩
theorem lst_heap (I : Inv X pins σ H s) {b : Addr} {vs : List V} (t : H b = some (.lst vs)) : ∃ (o : Obj) (its : List Value) (n : Nat), Vals vs its ∧ s.heap.get? b = some o ∧ o.cls = .type "list" ∧ o.data = .seq its.toArray n := by
  obtain ⟨hz, its, n, rv, h1⟩ := (show ObjOk X.prog X.w H s.heap b (.lst vs) from I.hok b _ t)
  exact ⟨_, its, n, rv, h1, rfl, rfl⟩
mutual
theorem reads_of (I : Inv X pins σ H s) : ∀ (d : D) (p : PyData) (v : V) (u : Value), dD d = some p → Rep (kx X) H g d v → RelV v u → ∃ as, Reads s.heap u p as
  | .non, _, _, _, h, r, rv => by simp only [dD] at h; cases h; cases r; cases (show _ = Value.none from rv); exact ⟨_, .none⟩
  | .bl b, _, _, _, h, r, rv => by simp only [dD] at h; cases h; cases r; cases (show _ = Value.bool b from rv); exact ⟨_, .bool b⟩
  | .int i, _, _, _, h, r, rv => by simp only [dD] at h; cases h; cases r; obtain ⟨t, rfl⟩ := (show ∃ t, _ = Value.int i t from rv); exact ⟨_, .int i t⟩
  | .str x, _, _, _, h, r, rv => by simp only [dD] at h; cases h; cases r; obtain ⟨t, rfl⟩ := (show ∃ t, _ = Value.str _ t from rv); exact ⟨_, .str _ t⟩
  | .tup ds, _, _, _, h, ⟨a, vs, e, t, rl⟩, rv => by
    simp only [dD, Option.map_eq_some_iff] at h
    obtain ⟨ps, h, rfl⟩ := h
    subst e
    cases (show _ = Value.ref a from rv)
    obtain ⟨o, its, n, rits, h1, h2, h3⟩ := tup_heap I t
    obtain ⟨as, ha⟩ := readss_of I ds ps vs its h rl rits
    exact ⟨_, .tuple h1 h2 h3 (by simpa using ha)⟩
  | .lst ds, _, _, _, h, ⟨a, vs, e, _, t, rl⟩, rv => by
    simp only [dD, Option.map_eq_some_iff] at h
    obtain ⟨ps, h, rfl⟩ := h
    subst e
    cases (show _ = Value.ref a from rv)
    obtain ⟨o, its, n, rits, h1, h2, h3⟩ := lst_heap I t
    obtain ⟨as, ha⟩ := readss_of I ds ps vs its h rl rits
    exact ⟨_, .list h1 h2 h3 (by simpa using ha)⟩
  | .obj _, _, _, _, h, _, _ => by simp only [dD] at h; cases h
  | .gl _, _, _, _, h, _, _ => by simp only [dD] at h; cases h
  | .ty _, _, _, _, h, _, _ => by simp only [dD] at h; cases h
  | .scr _, _, _, _, h, _, _ => by simp only [dD] at h; cases h
  | .edc, _, _, _, h, _, _ => by simp only [dD] at h; cases h
  | .ins _ _ _, _, _, _, h, _, _ => by simp only [dD] at h; cases h
theorem readss_of (I : Inv X pins σ H s) : ∀ (ds : List D) (ps : List PyData) (vs : List V) (us : List Value), dDs ds = some ps → RepL (kx X) H g ds vs → Vals vs us → ∃ as, ReadsAll s.heap us ps as
  | [], _, _, _, h, r, rv => by simp only [dDs] at h; cases h; cases (show _ = [] from r); cases rv; exact ⟨_, .nil⟩
  | d :: ds, _, _, _, h, ⟨v, t, e, r1, r2⟩, rv => by
    simp only [dDs] at h
    subst e
    cases rv with
    | cons q1 q2 =>
      split at h
      · rename_i q qs h1 h2
        cases h
        obtain ⟨as, a1⟩ := reads_of I d q v _ h1 r1 q1
        obtain ⟨bs, a2⟩ := readss_of I ds qs t _ h2 r2 q2
        exact ⟨_, .cons a1 a2⟩
      · cases h
end
theorem bRepr_ok (hu : X.A.units + 60 < cLine) (hg : X.A.guards = some []) : CallC X (.builtin "repr") bRepr := by
  have key : ∀ (p : PyData) (a : Addr) (as : List Addr) (S : Sto) (g : G) (x : List Nat) (pins : List (Addr × Obj)) (s : Shared) (σ : L2.St) (H : Hp) (Q : VK), Inv X pins σ H s → Reads s.heap (.ref a) p as → p.hasDict = false → reprD p = some x → WF (kx X) H g S →
      (∀ v H' g', Ext H g H' g' → WF (kx X) H' g' S → Rep (kx X) H' g' (.str x) v → Q v H') → wpAny (model X.prog X.w) X.A (call (.builtin "repr") [.ref a]) (EP X pins σ Q) X.xe s := by
    intro p a as S g x pins s σ H Q I rd nd hp w q
    unfold reprD at hp
    split at hp
    · rename_i hc
      cases hp
      obtain ⟨h1, h2, h3⟩ := hc
      refine repr_of_reads' rd h1 (fun z => by rw [nd] at z; cases z) hg (by omega) (fun _ _ z => z) (fun h' u tk hk => ?_) h2
      refine ⟨.str p.shown, H, I.kept (t' := tk) hk, ⟨u, rfl⟩, q _ H g (Ext.refl H g) w ?_⟩
      show V.str p.shown = V.str ⟨p.shown.cps.toList.toArray⟩
      rfl
    · cases hp
  intro ds res h pins s σ H xs us Q I r ⟨g, S, w, c, q⟩
  unfold bRepr at h
  split at h
  · rename_i ts
    obtain ⟨p, hp, h⟩ := Option.bind_eq_some_iff.mp h
    obtain ⟨x, hx, rfl⟩ := Option.map_eq_some_iff.mp h
    obtain ⟨v, t, rfl, c1, ht⟩ := c
    cases (show t = [] from ht)
    cases r with
    | cons r1 r2 =>
      cases r2
      obtain ⟨a, vs, rfl, ta, rl⟩ := c1
      obtain ⟨as, rd⟩ := reads_of I (.tup ts) p (.ref a) _ hp (g := g) ⟨a, vs, rfl, ta, rl⟩ r1
      cases (show _ = Value.ref a from r1)
      exact key p a as S g x pins s σ H Q I rd (noDict _ _ hp) hx w q
  · rename_i ts
    obtain ⟨p, hp, h⟩ := Option.bind_eq_some_iff.mp h
    obtain ⟨x, hx, rfl⟩ := Option.map_eq_some_iff.mp h
    obtain ⟨v, t, rfl, c1, ht⟩ := c
    cases (show t = [] from ht)
    cases r with
    | cons r1 r2 =>
      cases r2
      obtain ⟨a, vs, rfl, ta, rl⟩ := c1
      have nd := noDict _ _ hp
      simp only [dD, Option.map_eq_some_iff] at hp
      obtain ⟨ps, hp, rfl⟩ := hp
      cases (show _ = Value.ref a from r1)
      obtain ⟨o, its, n, rits, h1, h2, h3⟩ := lst_heap I ta
      obtain ⟨as, ha⟩ := readss_of I ts ps vs its hp rl rits
      exact key _ a _ S g x pins s σ H Q I (.list h1 h2 h3 (by simpa using ha)) nd hx w q
  · cases h
end
end Rf
set_option Elab.async false
set_option linter.all false
set_option maxRecDepth 100000
set_option maxHeartbeats 0
namespace Rf
open PySem L2 TL
section
variable {α : Type} {f g : α → D} {all : List D} {t : Tg} {b : SM} {P : Fl → Ls → Sto → Prop} {PL : List D → Sto → Prop} {tt : Ls → Sto → R Bool} {te : EM} {Lw : Ls} {l : List (Nat × List D)}
theorem lc_eqD {S : Sto} (hd : DepC S l) (as : List α) (h : ∀ a ∈ as, ∃ L1, tgA t (f a) Lw = some L1 ∧ tt L1 S = .ok true S ∧ te L1 S = .ok (g a) S) (hz : as.length ≤ sizeLine) : lcLoop (some l) all t tt te Lw (as.map f) S [] = .ok (as.map g) S := by
  have key : ∀ (as : List α) (acc : List D), (∀ a ∈ as, ∃ L1, tgA t (f a) Lw = some L1 ∧ tt L1 S = .ok true S ∧ te L1 S = .ok (g a) S) → acc.length + as.length ≤ sizeLine → lcLoop (some l) all t tt te Lw (as.map f) S acc = .ok (acc ++ as.map g) S := by
    intro as
    induction as with
    | nil => intro acc _ _; rw [List.map_nil, lcLoop, ckd, if_pos hd, List.map_nil, List.append_nil]
    | cons a as ih =>
      intro acc h hz
      obtain ⟨L1, e1, e2, e3⟩ := h a List.mem_cons_self
      rw [List.length_cons] at hz
      rw [List.map_cons, lcLoop, ckd, if_pos hd, e1]
      dsimp only
      rw [e2]
      dsimp only [R.nox, R.bind]
      rw [if_pos rfl, e3]
      dsimp only
      rw [if_pos (by omega), ih (acc ++ [g a]) (fun x hx => h x (List.mem_cons_of_mem _ hx)) (by rw [List.length_append, List.length_singleton]; omega), List.map_cons, List.append_assoc, List.singleton_append]
  have := key as [] h (by rw [List.length_nil]; omega)
  rw [this, List.nil_append]
theorem wps_forD {xp : ExP} (I : List D → Ls → Sto → Prop) (hI : ∀ ds L S, I ds L S → DepC S l)
    (step : ∀ d ds L S, I (d :: ds) L S → ∃ L1, tgA t d L = some L1 ∧ wps (b L1 S) fun fl L2 S2 => match fl with
      | .nx => I ds L2 S2
      | .ct => I ds L2 S2
      | .bk => P .nx L2 S2
      | fl => P fl L2 S2)
    (done : ∀ L S, I [] L S → P .nx L S) : ∀ (ds : List D) (L : Ls) (S : Sto), I ds L S → wps (forL (some l) all t b ds L S) P
  | [], L, S, h => by
    rw [forL, ckS, if_pos (hI _ _ _ h)]
    exact ⟨done L S h⟩
  | d :: ds, L, S, h => by
    obtain ⟨L1, e, h'⟩ := step d ds L S h
    rw [forL, ckS, if_pos (hI _ _ _ h), e]
    dsimp only
    cases q : b L1 S with
    | no => rw [q] at h'; exact h'.out.elim
    | ex x L2 S2 => rw [q] at h'; exact ⟨h'.out⟩
    | ok fl L2 S2 =>
      rw [q] at h'
      cases fl with
      | nx => exact wps_forD I hI step done ds L2 S2 h'.out
      | ct => exact wps_forD I hI step done ds L2 S2 h'.out
      | bk => exact ⟨h'.out⟩
      | rt d => exact ⟨h'.out⟩
theorem wps_eaD {xp : ExP} (J : List α → Ls → Sto → Prop) (hJ : ∀ as L S, J as L S → DepC S l)
    (step : ∀ a as L S, J (a :: as) L S → ∃ L1, tgA t (f a) L = some L1 ∧ wps (b L1 S) fun fl L2 S2 => match fl with
      | .nx => J as L2 S2
      | .ct => J as L2 S2
      | .bk => P .nx L2 S2
      | fl => P fl L2 S2)
    (done : ∀ L S, J [] L S → P .nx L S) (as : List α) (L : Ls) (S : Sto) (h : J as L S) : wps (forL (some l) all t b (as.map f) L S) P := by
  refine wps_forD (fun ds L S => ∃ as, ds = as.map f ∧ J as L S) (fun ds L S ⟨as, _, h⟩ => hJ as L S h) ?_ ?_ _ L S ⟨as, rfl, h⟩
  · rintro d ds L S ⟨as, e, h⟩
    cases as with
    | nil => cases e
    | cons a as =>
      cases e
      obtain ⟨L1, e1, w⟩ := step a as L S h
      exact ⟨L1, e1, w.mono fun fl L2 S2 q => by
        cases fl with
        | nx => exact ⟨_, rfl, q⟩
        | ct => exact ⟨_, rfl, q⟩
        | bk => exact q
        | rt d => exact q⟩
  · rintro L S ⟨as, e, h⟩
    cases as with
    | nil => exact done L S h
    | cons a as => cases e
end
end Rf
set_option Elab.async false
set_option linter.all false
set_option maxRecDepth 100000
set_option maxHeartbeats 1000000
namespace Rf
open PySem L2 TL
def nxE (Q : L2.St → Hp → Prop) : Ends := { nx := Q, bk := fun _ _ => False, ct := fun _ _ => False, rt := fun _ _ => False }
/-- a target: what is done with a value -/
abbrev TM := D → SM
def tmS : List TM → List D → SM
  | [], [] => fun L S => .ok .nx L S
  | t :: ts, d :: ds => fun L S => (t d L S).seq fun L S => tmS ts ds L S
  | _, _ => fun _ _ => .no
def tmNm (i : Nat) : TM := fun d L S => .ok .nx (L.set i (.v d)) S
/-- a place of a list of the store, a key of a dict of the store -/
def tmSub (mo mk : EM) : TM := fun d L S => (mo L S).st L fun o S2 => (mk L S2).st L fun y S3 => match o with
  | .obj n => match S3[n]?, y with
    | some (.lst ds), .int k => match ixN ds.length k with
      | some j => .ok .nx L (S3.set n (.lst (ds.set j d)))
      | none => .no
    | some (.dK kvs), y => match kKey y with
      | some q => if kvs.length < sizeLine then .ok .nx L (S3.set n (.dK (dPutK kvs q d))) else .no
      | none => .no
    | _, _ => .no
  | _ => .no
theorem PSet.or {X : Cx} {t t' : TSet} (h : PSet X t) (h' : PSet X t') : PSet X (fun o i v H Q => t o i v H Q ∨ t' o i v H Q) := fun pins s σ H o i v ov iv u Q I r1 r2 r3 q => q.elim (h pins s σ H o i v ov iv u Q I r1 r2 r3) (h' pins s σ H o i v ov iv u Q I r1 r2 r3)
section
variable {X : Cx} {W : WX} {pos ps : Pos} {i kk : Nat} {x : Str} {e o ix : Expr} {es : List Expr} {tm : TM} {tms : List TM} {mo mk m : EM}
def RS.nxO (r : RS) : RS := match r with
  | .ok .nx L S => .ok .nx L S
  | .ex x L S => .ex x L S
  | _ => .no
theorem SPost.nxO {k : Kx} {B : Hp} {gB : G} {H : Hp} {g : G} {r : RS} {D : Ends} (p : SPost k B gB W H g r.nxO D) : SPost k B gB W H g r (nxE D.nx) := by
  cases r with
  | ok fl L S =>
    cases fl with
    | nx => exact p
    | _ => exact p.elim
  | ex x L S => exact p
  | no => exact p
/-- a, b = .. : the values of a new tuple go to the targets one by one -/
def sTm (tms : List TM) (m : EM) : SM := fun L S => (m L S).st L fun d S1 => match d with
  | .tup ds => if ds.length = tms.length then (tmS tms ds L S1).nxO else .no
  | _ => .no
end
section
variable {xp : ExP} {PS : Fl → Ls → Sto → Prop} {L : Ls} {S : Sto} {m mo mk : EM} {tms : List TM} {tm : TM} {d : D} {ds : List D} {i : Nat}
theorem nxO_wps {r : RS} (h : wps r fun fl L S => fl = .nx ∧ PS .nx L S) : wps r.nxO PS := by
  cases r with
  | ok fl L S =>
    obtain ⟨e, k⟩ := (show fl = .nx ∧ PS .nx L S from h.out)
    subst e
    exact ⟨k⟩
  | ex x L S => exact ⟨h.out⟩
  | no => exact h.out.elim
theorem q_tm (h : wp (m L S) fun d S1 => ∃ ds, d = .tup ds ∧ ds.length = tms.length ∧ wps (tmS tms ds L S1) fun fl L S => fl = .nx ∧ PS .nx L S) : wps (sTm tms m L S) PS := by
  unfold sTm
  rw [wps_st]
  refine h.mono fun d S1 ⟨ds, e, hl, h⟩ => ?_
  subst e
  dsimp only
  rw [if_pos hl]
  exact nxO_wps h
theorem q_tmNil (h : PS .nx L S) : wps (tmS [] [] L S) PS := ⟨h⟩
theorem q_tmCons (h : wps (tm d L S) fun fl L1 S1 => match fl with
    | .nx => wps (tmS tms ds L1 S1) PS
    | fl => PS fl L1 S1) : wps (tmS (tm :: tms) (d :: ds) L S) PS := by
  unfold tmS
  rw [wps_seq]
  exact h
theorem q_tmNm (h : ∀ L', L.set i (.v d) = L' → PS .nx L' S) : wps (tmNm i d L S) PS := ⟨h _ rfl⟩
theorem q_tmSub (h : wp (mo L S) fun o S2 => wp (mk L S2) fun y S3 => ∃ n, o = .obj n ∧ ((∃ k xs j, y = .int k ∧ S3[n]? = some (.lst xs) ∧ ixN xs.length k = some j ∧ ∀ S', S3.set n (.lst (xs.set j d)) = S' → PS .nx L S') ∨
    (∃ q kvs, kKey y = some q ∧ S3[n]? = some (.dK kvs) ∧ kvs.length < sizeLine ∧ ∀ S', S3.set n (.dK (dPutK kvs q d)) = S' → PS .nx L S'))) : wps (tmSub mo mk d L S) PS := by
  unfold tmSub
  rw [wps_st]
  refine h.mono fun o S2 h2 => ?_
  rw [wps_st]
  refine h2.mono fun y S3 h3 => ?_
  obtain ⟨n, e, k3⟩ := h3
  subst e
  dsimp only
  rcases k3 with ⟨k, xs, j, rfl, e1, e2, k4⟩ | ⟨q, kvs, e1, e2, hl, k4⟩
  · rw [e1]
    dsimp only
    rw [e2]
    exact ⟨k4 _ rfl⟩
  · rw [e2]
    dsimp only
    rw [e1]
    dsimp only
    rw [if_pos hl]
    exact ⟨k4 _ rfl⟩
instance : Ws (sTm tms m L S) PS (wp (m L S) fun d S1 => ∃ ds, d = .tup ds ∧ ds.length = tms.length ∧ wps (tmS tms ds L S1) fun fl L S => fl = .nx ∧ PS .nx L S) := ⟨q_tm⟩
instance : Ws (tmS [] [] L S) PS (PS .nx L S) := ⟨q_tmNil⟩
instance : Ws (tmS (tm :: tms) (d :: ds) L S) PS (wps (tm d L S) fun fl L1 S1 => match fl with
    | .nx => wps (tmS tms ds L1 S1) PS
    | fl => PS fl L1 S1) := ⟨q_tmCons⟩
instance : Ws (tmNm i d L S) PS (∀ L', L.set i (.v d) = L' → PS .nx L' S) := ⟨q_tmNm⟩
instance : Ws (tmSub mo mk d L S) PS (wp (mo L S) fun o S2 => wp (mk L S2) fun y S3 => ∃ n, o = .obj n ∧ ((∃ k xs j, y = .int k ∧ S3[n]? = some (.lst xs) ∧ ixN xs.length k = some j ∧ ∀ S', S3.set n (.lst (xs.set j d)) = S' → PS .nx L S') ∨
    (∃ q kvs, kKey y = some q ∧ S3[n]? = some (.dK kvs) ∧ kvs.length < sizeLine ∧ ∀ S', S3.set n (.dK (dPutK kvs q d)) = S' → PS .nx L S'))) := ⟨q_tmSub⟩
end
end Rf
set_option Elab.async false
set_option linter.all false
set_option maxRecDepth 100000
set_option maxHeartbeats 1000000
namespace Rf
open PySem L2 TL
inductive PV where
  | v (m : EM) | o (m : Ls → Sto → R (List D))
def pvE : PV → Ls → Sto → R LV
  | .v m, L, S => (m L S).bind fun d S1 => .ok (.v d) S1
  | .o m, L, S => (m L S).bind fun ds S1 => .ok (.o (.lst ds)) S1
def PvRep (k : Kx) (H0 H : Hp) (g : G) : LV → V → Prop
  | .v d, v => Rep k H g d v
  | .o (.lst ds), v => FRep k H0 H g ds v
  | _, _ => False
section
variable {X : Cx} {W : WX} {pos : Pos} {e a b c : Expr} {m : EM} {mf : Ls → Sto → R (List D)} {i j l : Nat} {x y z : Str}
theorem PvRep.ext {k : Kx} {H0 H H' : Hp} {g g' : G} {lv : LV} {v : V} (e : Ext H g H' g') (r : PvRep k H0 H g lv v) : PvRep k H0 H' g' lv v := by
  cases lv with
  | v d => exact Rep.mono e.toPExt _ _ r
  | o u =>
    cases u with
    | lst ds =>
      obtain ⟨a, h1, h2, h3⟩ := r
      exact ⟨a, h1, h2, h3.ext e⟩
    | _ => exact r.elim
  | un => exact r.elim
  | exc x => exact r.elim
def sPv2 (i j : Nat) (a b : PV) : SM := fun L S => (pvE a L S).st L fun x S1 => (pvE b L S1).st L fun y S2 => .ok .nx ((L.set i x).set j y) S2
def sPv3 (i j l : Nat) (a b c : PV) : SM := fun L S => (pvE a L S).st L fun x S1 => (pvE b L S1).st L fun y S2 => (pvE c L S2).st L fun z S3 => .ok .nx (((L.set i x).set j y).set l z) S3
end
section
variable {xp : ExP} {PS : Fl → Ls → Sto → Prop} {PV' : LV → Sto → Prop} {L : Ls} {S : Sto} {m : EM} {mf : Ls → Sto → R (List D)} {A B C : PV} {i j l : Nat}
theorem r_pvV (h : wp (m L S) fun d S1 => PV' (.v d) S1) : wp (pvE (.v m) L S) PV' := by
  unfold pvE
  rw [wp_bind]
  exact h.mono fun d S1 k => ⟨k⟩
theorem r_pvO (h : wp (mf L S) fun ds S1 => PV' (.o (.lst ds)) S1) : wp (pvE (.o mf) L S) PV' := by
  unfold pvE
  rw [wp_bind]
  exact h.mono fun d S1 k => ⟨k⟩
theorem q_pv2 (h : wp (pvE A L S) fun x S1 => wp (pvE B L S1) fun y S2 => ∀ L', (L.set i x).set j y = L' → PS .nx L' S2) : wps (sPv2 i j A B L S) PS := by
  unfold sPv2
  rw [wps_st]
  refine h.mono fun x S1 h => ?_
  rw [wps_st]
  exact h.mono fun y S2 k => ⟨k _ rfl⟩
theorem q_pv3 (h : wp (pvE A L S) fun x S1 => wp (pvE B L S1) fun y S2 => wp (pvE C L S2) fun z S3 => ∀ L', ((L.set i x).set j y).set l z = L' → PS .nx L' S3) : wps (sPv3 i j l A B C L S) PS := by
  unfold sPv3
  rw [wps_st]
  refine h.mono fun x S1 h => ?_
  rw [wps_st]
  refine h.mono fun y S2 h => ?_
  rw [wps_st]
  exact h.mono fun z S3 k => ⟨k _ rfl⟩
instance : Wp (pvE (.v m) L S) PV' (wp (m L S) fun d S1 => PV' (.v d) S1) := ⟨r_pvV⟩
instance : Wp (pvE (.o mf) L S) PV' (wp (mf L S) fun ds S1 => PV' (.o (.lst ds)) S1) := ⟨r_pvO⟩
instance : Ws (sPv2 i j A B L S) PS (wp (pvE A L S) fun x S1 => wp (pvE B L S1) fun y S2 => ∀ L', (L.set i x).set j y = L' → PS .nx L' S2) := ⟨q_pv2⟩
instance : Ws (sPv3 i j l A B C L S) PS (wp (pvE A L S) fun x S1 => wp (pvE B L S1) fun y S2 => wp (pvE C L S2) fun z S3 => ∀ L', ((L.set i x).set j y).set l z = L' → PS .nx L' S3) := ⟨q_pv3⟩
end
end Rf
set_option Elab.async false
set_option linter.all false
set_option maxRecDepth 100000
set_option maxHeartbeats 4000000
namespace Rf
open PySem PySem.Spec PyProof.Rows L2 TL
section
variable {X : Cx}
/-- tuple * int for every number of times, else as oMul -/
def oMulU : D → D → Option D
  | .tup a, .int b => if -(2 ^ 63) ≤ b ∧ b ≤ 1000 ∧ a.length ≤ 1000 then some (.tup (List.replicate b.toNat a).flatten) else none
  | d, e => oMul d e
end
theorem x_mulUi {a b : Int} (h : a.natAbs.log2 + b.natAbs.log2 < 1000000) : oMulU (.int a) (.int b) = some (.int (a * b)) := if_pos h
theorem x_mulUt {a : List D} {b : Int} (h : -(2 ^ 63) ≤ b ∧ b ≤ 1000 ∧ a.length ≤ 1000) : oMulU (.tup a) (.int b) = some (.tup (List.replicate b.toNat a).flatten) := if_pos h
instance {a b : Int} : Og (oMulU (.int a) (.int b)) (.int (a * b)) (a.natAbs.log2 + b.natAbs.log2 < 1000000) := ⟨x_mulUi⟩
instance {a : List D} {b : Int} : Og (oMulU (.tup a) (.int b)) (.tup (List.replicate b.toNat a).flatten) (-(2 ^ 63) ≤ b ∧ b ≤ 1000 ∧ a.length ≤ 1000) := ⟨x_mulUt⟩
end Rf
set_option Elab.async false
set_option linter.all false
set_option maxRecDepth 100000
set_option maxHeartbeats 1000000
namespace Rf
open PySem L2 TL
def txKs : DctK → Option (List (List Nat))
  | [] => some []
  | (.inr s, _) :: r => (txKs r).map (s.cps.toList :: ·)
  | (.inl _, _) :: _ => none
/-- sorted(d) -/
def fSrtK (mo : EM) : Ls → Sto → R (List D) := fun L S => (mo L S).bind fun o S1 => match o with
  | .obj n => match S1[n]? with
    | some (.dK kvs) => match txKs kvs with
      | some ks => if ks.length < 64 ∧ ks.Nodup then .ok ((sortU ks).map .str) S1 else .no
      | none => .no
    | _ => .no
  | _ => .no
theorem r_fSrtK {m : EM} {L : Ls} {S : Sto} {xp : ExP} {PL : List D → Sto → Prop} (h : wp (m L S) fun o S1 => ∃ n kvs ks, o = .obj n ∧ S1[n]? = some (.dK kvs) ∧ txKs kvs = some ks ∧ ks.length < 64 ∧ ks.Nodup ∧ PL ((sortU ks).map .str) S1) : wp (fSrtK m L S) PL := by
  unfold fSrtK
  rw [wp_bind]
  refine h.mono fun o S1 ⟨n, kvs, ks, e, e1, e2, e3, e4, k⟩ => ?_
  subst e
  dsimp only
  rw [e1]
  dsimp only
  rw [e2]
  dsimp only
  rw [if_pos ⟨e3, e4⟩]
  exact ⟨k⟩
instance {m : EM} {L : Ls} {S : Sto} {xp : ExP} {PL : List D → Sto → Prop} : Wp (fSrtK m L S) PL (wp (m L S) fun o S1 => ∃ n kvs ks, o = .obj n ∧ S1[n]? = some (.dK kvs) ∧ txKs kvs = some ks ∧ ks.length < 64 ∧ ks.Nodup ∧ PL ((sortU ks).map .str) S1) := ⟨r_fSrtK⟩
def prE : List (EM × EM) → Ls → Sto → R (List (D × D))
  | [], _, S => .ok [] S
  | (mk, mv) :: r, L, S => (mk L S).bind fun x S1 => (mv L S1).bind fun y S2 => (prE r L S2).bind fun ps S3 => .ok ((x, y) :: ps) S3
def kyPs : List (D × D) → Option DctK
  | [] => some []
  | (x, y) :: r => match kKey x, kyPs r with
    | some q, some ps => some ((q, y) :: ps)
    | _, _ => none
def mgK (kvs more : DctK) : DctK := more.foldl (fun acc kv => dPutK acc kv.1 kv.2) kvs
def eDisp (prs : List (EM × EM)) : EM := fun L S => (prE prs L (S ++ [.dK []])).bind fun ps S1 => match S1[S.length]?, kyPs ps with
  | some (.dK []), some kvs => if kvs.length ≤ 15 then .ok (.obj S.length) (S1.set S.length (.dK (mgK [] kvs))) else .no
  | _, _ => .no
section
variable {L : Ls} {S : Sto} {xp : ExP} {P : D → Sto → Prop} {PP : List (D × D) → Sto → Prop}
theorem r_prNil (h : PP [] S) : wp (prE [] L S) PP := ⟨h⟩
theorem r_prCons {mk mv : EM} {r : List (EM × EM)} (h : wp (mk L S) fun x S1 => wp (mv L S1) fun y S2 => wp (prE r L S2) fun ps S3 => PP ((x, y) :: ps) S3) : wp (prE ((mk, mv) :: r) L S) PP := by
  unfold prE
  rw [wp_bind]
  refine h.mono fun x S1 k => ?_
  rw [wp_bind]
  refine k.mono fun y S2 k => ?_
  rw [wp_bind]
  exact k.mono fun ps S3 k => ⟨k⟩
instance : Wp (prE [] L S) PP (PP [] S) := ⟨r_prNil⟩
instance {mk mv : EM} {r : List (EM × EM)} : Wp (prE ((mk, mv) :: r) L S) PP (wp (mk L S) fun x S1 => wp (mv L S1) fun y S2 => wp (prE r L S2) fun ps S3 => PP ((x, y) :: ps) S3) := ⟨r_prCons⟩
theorem r_disp {prs : List (EM × EM)} (h : ∀ S0, S ++ [.dK []] = S0 → wp (prE prs L S0) fun ps S1 => ∀ n, S.length = n → S1[n]? = some (.dK []) ∧ ∃ kvs, kyPs ps = some kvs ∧ kvs.length ≤ 15 ∧ ∀ S', S1.set n (.dK (mgK [] kvs)) = S' → P (.obj n) S') : wp (eDisp prs L S) P := by
  unfold eDisp
  rw [wp_bind]
  refine (h _ rfl).mono fun ps S1 k => ?_
  obtain ⟨e1, kvs, e2, e3, k⟩ := k _ rfl
  rw [e1, e2]
  dsimp only
  rw [if_pos e3]
  exact ⟨k _ rfl⟩
instance {prs : List (EM × EM)} : Wp (eDisp prs L S) P (∀ S0, S ++ [.dK []] = S0 → wp (prE prs L S0) fun ps S1 => ∀ n, S.length = n → S1[n]? = some (.dK []) ∧ ∃ kvs, kyPs ps = some kvs ∧ kvs.length ≤ 15 ∧ ∀ S', S1.set n (.dK (mgK [] kvs)) = S' → P (.obj n) S') := ⟨r_disp⟩
end
end Rf
set_option Elab.async false
set_option linter.all false
set_option maxRecDepth 100000
set_option maxHeartbeats 1000000
namespace Rf
open PySem L2 TL
def fSl (ma : EM) (ml mh : Ls → Sto → R (Option Int)) : Ls → Sto → R (List D) := fun L S => (ma L S).bind fun d S1 => (ml L S1).bind fun lo S2 => (mh L S2).bind fun hi S3 => match deref S3 d with
  | .lst xs => .ok (cutD xs lo hi) S3
  | _ => .no
instance {m : EM} {ml mh : Ls → Sto → R (Option Int)} {L : Ls} {S : Sto} {xp : ExP} {PL : List D → Sto → Prop} : Wp (fSl m ml mh L S) PL (wp (m L S) fun d S1 => wp (ml L S1) fun lo S2 => wp (mh L S2) fun hi S3 => ∃ xs, deref S3 d = .lst xs ∧ PL (cutD xs lo hi) S3) := ⟨fun h => by
  unfold fSl
  rw [wp_bind]
  refine h.mono fun d S1 k => ?_
  rw [wp_bind]
  refine k.mono fun lo S2 k => ?_
  rw [wp_bind]
  refine k.mono fun hi S3 ⟨xs, e, k⟩ => ?_
  rw [e]
  exact ⟨k⟩⟩
end Rf
set_option Elab.async false
set_option linter.all false
set_option maxRecDepth 100000
set_option maxHeartbeats 1000000
namespace Rf
open PySem L2 TL
def oIdx (ds : List D) (e : D) : Option D := if shp (.lst ds) && shp e then (ds.findIdx? fun z => eqv z e).map fun j : Nat => D.int (j : Int) else none
def eIdx (mo me : EM) : EM := fun L S => (mo L S).bind fun d S1 => match d with
  | .lst ds => (me L S1).bind fun y S2 => lift (oIdx ds y) S2
  | _ => .no
theorem r_idx {mo me : EM} {L : Ls} {S : Sto} {xp : ExP} {P : D → Sto → Prop} (h : wp (mo L S) fun d S1 => ∃ ds, d = .lst ds ∧ wp (me L S1) fun y S2 => ∃ z, oIdx ds y = some z ∧ P z S2) : wp (eIdx mo me L S) P := by
  unfold eIdx
  rw [wp_bind]
  refine h.mono fun d S1 ⟨ds, e, k⟩ => ?_
  subst e
  dsimp only
  rw [wp_bind]
  refine k.mono fun y S2 ⟨z, e, k⟩ => ?_
  rw [e]
  exact ⟨k⟩
instance {mo me : EM} {L : Ls} {S : Sto} {xp : ExP} {P : D → Sto → Prop} : Wp (eIdx mo me L S) P (wp (mo L S) fun d S1 => ∃ ds, d = .lst ds ∧ wp (me L S1) fun y S2 => ∃ z, oIdx ds y = some z ∧ P z S2) := ⟨r_idx⟩
end Rf
set_option Elab.async false
set_option linter.all false
set_option maxRecDepth 100000
set_option maxHeartbeats 4000000
namespace Rf
open PySem PySem.Spec PySem.SeqAt PyProof.Rows L2 TL
section
variable {X : Cx}
/-- plus and minus, the left one a truth value, too -/
def oAddU : D → D → Option D
  | .bl a, .int i => some (.int ((if a = true then (1 : Int) else 0) + i))
  | d, e => oAdd d e
def oSubU : D → D → Option D
  | .bl a, .int i => some (.int ((if a = true then (1 : Int) else 0) - i))
  | d, e => oSub d e
end
instance {a b : Int} : Op (oAddU (.int a) (.int b)) (.int (a + b)) := ⟨rfl⟩
instance {a : Bool} {b : Int} : Op (oAddU (.bl a) (.int b)) (.int ((if a = true then (1 : Int) else 0) + b)) := ⟨rfl⟩
instance {a b : Int} : Op (oSubU (.int a) (.int b)) (.int (a - b)) := ⟨rfl⟩
instance {a : Bool} {b : Int} : Op (oSubU (.bl a) (.int b)) (.int ((if a = true then (1 : Int) else 0) - b)) := ⟨rfl⟩
end Rf
set_option Elab.async false
set_option linter.all false
set_option maxRecDepth 100000
set_option maxHeartbeats 4000000
namespace Rf
open PySem L2 TL
/-- the class at C has no __init__ but object's -/
structure Mk0 (K : PySem.W.Frag) (C : Addr) : Prop where
  makes : PySem.W.makesIn K C = true
  init : PySem.W.findIn K (.ref C) "__init__" = some (some (.builtin "object.__init__"))
  kp : PySem.W.keepIn K (.ref C) = true
section
variable {X : Cx} {W : WX} {pos p : Pos}
theorem run_mk0 {pins : List (Addr × Obj)} {σ : L2.St} {H : Hp} {s : Shared} {Q : VK} {C : Addr} (M : Mk0 X.K C) (I : Inv X pins σ H s)
    (h : ∀ x dx, H x = none → H dx = none → dx ≠ x → Q (.ref x) (upd (upd H dx (.own x)) x (.ins C dx []))) :
    wpAny (model X.prog X.w) X.A (call (.ref C) []) (EP X pins σ Q) X.xe s := by
  have hq := h (s.heap.objs.size + 1) s.heap.objs.size (I.hok.fresh (Nat.le_succ _)) (I.hok.fresh (Nat.le_refl _)) (Nat.ne_of_lt (Nat.lt_succ_self _))
  have I2 := Inv.made (C := C) I
  refine wpAny_call (make_map0 I.kIn M.makes M.init (fun self => PySem.W.Looks.of_pure (PySem.W.oi_bind _)) ?_)
  have hy : ((s.heap.push PySem.W.emptyDict).push (PySem.W.instObj C s.heap.objs.size)).get? (s.heap.objs.size + 1) = some (PySem.W.instObj C s.heap.objs.size) := by
    have := Heap.get?_push_size (s.heap.push PySem.W.emptyDict) (o := PySem.W.instObj C s.heap.objs.size) rfl
    have e : (s.heap.push PySem.W.emptyDict).objs.size = s.heap.objs.size + 1 := by simp [Heap.push]
    rw [e] at this
    exact this
  have t1 : PySem.W.Looks (model X.prog X.w) ((s.heap.push PySem.W.emptyDict).push (PySem.W.instObj C s.heap.objs.size)) (typeOf (.ref (s.heap.objs.size + 1))) (.ref C) := NwA.type_at hy rfl
  have t2 : PySem.W.Looks (model X.prog X.w) ((s.heap.push PySem.W.emptyDict).push (PySem.W.instObj C s.heap.objs.size)) (isInstance (.ref (s.heap.objs.size + 1)) (.type "object")) true := t1.andThen ((PySem.W.makes_of (M := model X.prog X.w) I.kIn M.makes).top.keeps fun b o e => Heap.get?_push_of_some _ (Heap.get?_push_of_some _ e))
  refine codeAny_call_builtin PySem.W.oi_plain PySem.W.entry_oi (@PySem.W.check_slot (model X.prog X.w) _ _ _ "object.__init__" "object" "__init__" (.ref (s.heap.objs.size + 1)) [] [] _ PySem.W.oi_kind PySem.W.oi_split t2 (NwA.oi_args_any (.ref (s.heap.objs.size + 1)) [] []) ?_)
  rw [PySem.W.oi_run]
  exact wpAny_pure (And.intro rfl ⟨V.ref (s.heap.objs.size + 1), _, I2, rfl, hq⟩)
def tMk0 (C : Addr) : TE := fun σ H Q => ∀ x dx, H x = none → H dx = none → dx ≠ x → Q (.ref x) (upd (upd H dx (.own x)) x (.ins C dx []))
theorem pe_mk0 {C : Addr} {c : Str} (M : Mk0 X.K C) (hg : Gl X c) (hm : X.mg c = some (.ref C)) (hdb : (c == ("__debug__" : Str)) = false) : PE X (.Call (.Name c p) [] [] pos) (tMk0 C) :=
  ⟨fun pins s σ H Q I h => wpAny_Call_Name_kw (ld_glob I hg hm (PySem.W.callWith_K0 I.kIn M.kp (run_mk0 M I h)) hdb)⟩
/-- the class c of the module can be made without arguments -/
structure MkC0 (X : Cx) (c : Str) : Prop where
  ex : ∃ C, X.mg c = some (.ref C) ∧ Mk0 X.K C
def eMk0 (c : Str) : EM := fun L S => .ok (.obj S.length) (S ++ [.ins c [] []])
theorem se_mk0 {c : Str} (M : MkC0 X c) (hg : Gl X c) (hdb : (c == ("__debug__" : Str)) = false) : SE X W (.Call (.Name c p) [] [] pos) (eMk0 c) := by
  obtain ⟨C, hC, mk⟩ := M.ex
  exact PE.imp (pe_mk0 mk hg hC hdb) fun σ H Q ⟨L, S, g, l, w, q⟩ => fun x dx hx hd hne => by
    have e2 : Ext H g (upd H dx (.own x)) g := Ext.new hd
    have hx' : upd H dx (.own x) x = none := by rw [upd_ne (Ne.symm hne)]; exact hx
    have e3 : Ext (upd H dx (.own x)) g (upd (upd H dx (.own x)) x (.ins C dx [])) (g.push x) := Ext.newPush hx'
    have w3 : WF (kx X) (upd (upd H dx (.own x)) x (.ins C dx [])) (g.push x) (S ++ [.ins c [] []]) := (w.new hd).newPush hx' ⟨C, dx, [], hC, upd_same, rfl⟩
    have rx : Rep (kx X) (upd (upd H dx (.own x)) x (.ins C dx [])) (g.push x) (.obj S.length) (.ref x) := ⟨by rw [w.len]; exact Nat.lt_succ_self _, by
      rw [w.len]
      show _ = V.ref (if g.n = g.n then x else g.ρ g.n)
      rw [if_pos rfl]⟩
    exact q _ _ _ (e2.trans e3) w3 rx
theorem r_mk0 {c : Str} {L : Ls} {S : Sto} {P : D → Sto → Prop} {xp : ExP} (h : ∀ n, S.length = n → ∀ S', S ++ [.ins c [] []] = S' → P (.obj n) S') : wp (eMk0 c L S) P := ⟨h _ rfl _ rfl⟩
instance {c : Str} {L : Ls} {S : Sto} {P : D → Sto → Prop} {xp : ExP} : Wp (eMk0 c L S) P (∀ n, S.length = n → ∀ S', S ++ [.ins c [] []] = S' → P (.obj n) S') := ⟨r_mk0⟩
end
section
variable {P : Program} {w : World} {K : PySem.W.Frag} {mg : Str → Option Value} {h : Heap} {fa : List He.Fa} {fn : List He.DefD} {c : Str}
/-- what the head tells of such a class -/
def mk0B (K : PySem.W.Frag) (c : Str) : Bool := PySem.W.makesIn K (He.ga K c) && (He.eqO (PySem.W.findIn K (.ref (He.ga K c)) "__init__") (some (some (.builtin "object.__init__"))) && PySem.W.keepIn K (.ref (He.ga K c)))
def Mk0F (K : PySem.W.Frag) (mg : Str → Option Value) (c : Str) : Prop := ∃ C, mg c = some (.ref C) ∧ Mk0 K C
theorem mk0F_at (X : K.In h) (G : h.Ns mainGlobals mg) (q : He.SaysD fa fn K) (h1 : He.Fa.glo c ∈ fa) (e : mk0B K c = true) : Mk0F K mg c := by
  unfold mk0B at e
  simp only [Bool.and_eq_true] at e
  exact ⟨_, He.glo_ok X G (q.facts h1), e.1, He.eqO_ok e.2.1, e.2.2⟩
theorem Mk0F.at {X : Cx} (f : Mk0F K mg c) (h3 : X.K = K) (h4 : X.mg = mg) : MkC0 X c := by
  subst h3 h4
  exact ⟨f⟩
end
end Rf
set_option Elab.async false
set_option linter.all false
set_option maxRecDepth 100000
set_option maxHeartbeats 1000000
namespace Rf
open PySem L2 TL
def eLenK (mo : EM) : EM := fun L S => (mo L S).bind fun o S1 => match o with
  | .obj n => match S1[n]? with
    | some (.dK kvs) => .ok (.int (kvs.length : Nat)) S1
    | _ => .no
  | _ => .no
theorem r_lenK {m : EM} {L : Ls} {S : Sto} {xp : ExP} {P : D → Sto → Prop} (h : wp (m L S) fun o S1 => ∃ n kvs, o = .obj n ∧ S1[n]? = some (.dK kvs) ∧ P (.int (kvs.length : Nat)) S1) : wp (eLenK m L S) P := by
  unfold eLenK
  rw [wp_bind]
  refine h.mono fun o S1 ⟨n, kvs, e, e1, k⟩ => ?_
  subst e
  dsimp only
  rw [e1]
  exact ⟨k⟩
instance {m : EM} {L : Ls} {S : Sto} {xp : ExP} {P : D → Sto → Prop} : Wp (eLenK m L S) P (wp (m L S) fun o S1 => ∃ n kvs, o = .obj n ∧ S1[n]? = some (.dK kvs) ∧ P (.int (kvs.length : Nat)) S1) := ⟨r_lenK⟩
end Rf
set_option Elab.async false
set_option linter.all false
set_option maxRecDepth 100000
set_option maxHeartbeats 4000000
namespace Rf
open PySem L2 TL
def eIsI (ms : List (Str × Bool)) (mo : EM) : EM := fun L S => (mo L S).bind fun d S1 => match insOf S1 d with
  | some (c, _, _) => lift ((ms.lookup c).map D.bl) S1
  | none => .no
section
variable {X : Cx} {W : WX} {o : Expr} {D : Str} {p p2 pos : Pos} {ms : List (Str × Bool)} {mo : EM}
theorem r_isI {L : Ls} {S : Sto} {P : Rf.D → Sto → Prop} {xp : ExP} (h : wp (mo L S) fun d S1 => ∃ c ns ds, insOf S1 d = some (c, ns, ds) ∧ ∃ b, ms.lookup c = some b ∧ P (.bl b) S1) : wp (eIsI ms mo L S) P := by
  unfold eIsI
  rw [wp_bind]
  refine h.mono fun d S1 ⟨c, ns, ds, e1, b, e2, k⟩ => ?_
  rw [e1]
  dsimp only
  rw [e2]
  exact ⟨k⟩
instance {L : Ls} {S : Sto} {P : Rf.D → Sto → Prop} {xp : ExP} : Wp (eIsI ms mo L S) P (wp (mo L S) fun d S1 => ∃ c ns ds, insOf S1 d = some (c, ns, ds) ∧ ∃ b, ms.lookup c = some b ∧ P (.bl b) S1) := ⟨r_isI⟩
end
end Rf
set_option Elab.async false
set_option linter.all false
set_option maxRecDepth 100000
set_option maxHeartbeats 4000000
namespace Rf
open PySem L2 TL
structure CalC (X : Cx) (c : Str) (F : Fn) : Prop where
  ex : ∃ (C f : Addr) (fd : FuncData) (ps : List Str) (j : Nat), X.mg c = some (.ref C) ∧ StX.CallO X.K C f ∧ FnOkG X.prog X.w X.K X.mg X.base (L2N.CX X.prog X.w) j f fd ps (spC (k0 X.K X.mg X.w) F) ∧ RoomG j X.A ∧ Binds X.K fd ps []
def CalT (X : Cx) (ms : List (Str × Fn)) : Prop := ∀ c F, ms.lookup c = some F → CalC X c F
theorem cal_nil {X : Cx} : CalT X [] := fun _ _ h => by cases h
theorem cal_cons {X : Cx} {c : Str} {F : Fn} {ms : List (Str × Fn)} (h : CalC X c F) (t : CalT X ms) : CalT X ((c, F) :: ms) := fun c' F' e => by
  rw [List.lookup_cons] at e
  split at e
  · rename_i q
    cases e
    rw [eq_of_beq q]
    exact h
  · exact t _ _ e
def eCo (ms : List (Str × Fn)) (mo : EM) (ma : Ls → Sto → R (List D)) : EM := fun L S => (mo L S).bind fun d S1 => match insOf S1 d with
  | some (c, _, _) => match ms.lookup c with
    | some F => (ma L S1).bind fun as S2 => match insOf S2 d with
      | some (c', _, _) => if c' = c then F (d :: as) S2 else .no
      | none => .no
    | none => .no
  | none => .no
section
variable {X : Cx} {W : WX} {o e : Expr} {pos : Pos} {es : List Expr} {ms : List (Str × Fn)} {mo : EM} {ma : Ls → Sto → R (List D)}
theorem se_co (T : CalT X ms) (tk : L2N.Takes X W) (ho : SE X W o mo) (ha : SAE X W (e :: es) ma) (hs : (e :: es).all noStar = true)
    (ht : eval (.Call o (e :: es) [] pos) X.env = (do callWith pos (← eval o X.env) [] (backTo pos (starEach (e :: es) X.env)) (backToKw pos (keywordEach [] X.env)))) : SE X W (.Call o (e :: es) [] pos) (eCo ms mo ma) := by
  have hs' : noStar e = true ∧ es.all noStar = true := by rwa [List.all_cons, Bool.and_eq_true] at hs
  refine ⟨fun pins s σ H Q I ⟨L, S, g, l, w, q⟩ => ?_⟩
  refine PyProof.Rows.Call_ (thn (ho.run pins s σ H (fun x H1 => ∃ a C f fd ps j F, x = .ref a ∧ StX.CallO X.K C f ∧ FnOkG X.prog X.w X.K X.mg X.base (L2N.CX X.prog X.w) j f fd ps (spC (k0 X.K X.mg X.w) F) ∧ RoomG j X.A ∧ Binds X.K fd ps [] ∧
      tAE (kx X) W ma σ H1 fun vs H2 => StX.InsC X H2 a C ∧ spC (k0 X.K X.mg X.w) F (x :: vs) H2 Q (L2.WE W σ)) I ⟨L, S, g, l, w, Post.bind q fun d S1 v H1 g1 e1 w1 r1 p1 => ?_⟩) fun u s1 ⟨x, H1, I1, rx, a, C, f, fd, ps, j, F, ex, cl, F', hr, hb, q⟩ => ?_) ht
  · split at p1
    · rename_i c ns ds hi
      split at p1
      · rename_i F hF
        obtain ⟨C', f, fd, ps, j, hC', cl, F', hr, hb⟩ := (T c F hF).ex
        obtain ⟨a, C, dx, vs, rfl, hC, ha', rl⟩ := insOf_rep w1 r1 hi
        have hC0 : X.mg c = some (.ref C) := hC
        rw [hC0] at hC'
        cases hC'
        refine ⟨a, C', f, fd, ps, j, F, rfl, cl, F', hr, hb, L, S1, g1, l.ext e1, w1, Post.bind p1 fun as S2 us H2 g2 e2 w2 r2 p2 => ?_⟩
        have r1' := r1.mono e2.toPExt _ _
        split at p2
        · rename_i c' ns' ds' hi'
          split at p2
          · rename_i hc
            subst hc
            obtain ⟨a', C', dx', vs', ea, hC', ha2, rl'⟩ := insOf_rep w2 r1' hi'
            cases ea
            have hC1 : X.mg c' = some (.ref C') := hC'
            rw [hC0] at hC1
            cases hC1
            exact ⟨.inr ⟨dx', _, ha2⟩, spC.kc (k := kx X) rfl rfl rfl ⟨d :: as, S2, g2, .cons r1' r2, w2, p2⟩⟩
          · exact p2.elim
        · exact p2.elim
      · exact p1.elim
    · exact p1.elim
  · subst ex
    obtain rfl : u = Value.ref a := rx
    refine StX.callO_with (thn (ha.run pos pins s1 σ H1 _ I1 q) fun us s2 ⟨vs, H2, I2, r, hi, q2⟩ => ?_) (star_cons hs'.1) (star_any hs'.2)
    obtain ⟨ox, od, J, hd⟩ := StX.insC_at I2 hi
    refine ⟨⟨C, ox, od, J, hd⟩, wpAny_call (PySem.W.kco_code I2.kIn J hd cl.at_ cl.fn cl.fi ?_)⟩
    have r' : Vals (V.ref a :: vs) (Value.ref a :: us) := .cons rfl r
    have b := hb s2 (Value.ref a :: us) I2.kIn (by rw [List.append_nil, ← r'.length]; exact F'.len _ _ _ _ q2)
    rw [List.append_nil] at b
    refine codeAny_mono (F'.run X.A X.stack s2 H2 ⟨Value.ref a :: us, []⟩ _ _ Q _ hr I2.env0 b r' q2) fun r s' hq => ?_
    match r, hq with
    | .error e, hq => exact L2N.passAt tk σ pins H2 s2 e s' I2 hq
    | .ok (.ret u), hq => exact I2.after hq
end
section
variable {ms : List (Str × Fn)} {mo : EM} {ma : Ls → Sto → R (List D)} {L : Ls} {S : Sto} {P : D → Sto → Prop} {xp : ExP}
theorem r_co (h : wp (mo L S) fun d S1 => ∃ c ns ds, insOf S1 d = some (c, ns, ds) ∧ ∃ F, ms.lookup c = some F ∧ wp (ma L S1) fun as S2 => ∃ ns' ds', insOf S2 d = some (c, ns', ds') ∧ wp (F (d :: as) S2) P) : wp (eCo ms mo ma L S) P := by
  unfold eCo
  rw [wp_bind]
  refine h.mono fun d S1 ⟨c, ns, ds, e1, F, e2, k⟩ => ?_
  rw [e1]
  dsimp only
  rw [e2]
  dsimp only
  rw [wp_bind]
  refine k.mono fun as S2 ⟨ns', ds', e3, k⟩ => ?_
  rw [e3]
  dsimp only
  rw [if_pos rfl]
  exact k
instance : Wp (eCo ms mo ma L S) P (wp (mo L S) fun d S1 => ∃ c ns ds, insOf S1 d = some (c, ns, ds) ∧ ∃ F, ms.lookup c = some F ∧ wp (ma L S1) fun as S2 => ∃ ns' ds', insOf S2 d = some (c, ns', ds') ∧ wp (F (d :: as) S2) P) := ⟨r_co⟩
end
/-- instances of c are called by the __call__ of D -/
def CalF (K : PySem.W.Frag) (mg : Str → Option Value) (c D : Str) : Prop := ∃ C, mg c = some (.ref C) ∧ StX.CallO K C (He.ma K (He.ga K D) "__call__")
theorem MthIn.call {P : Program} {w : World} {K : PySem.W.Frag} {mg : Str → Option Value} {base : Heap} {D c : Str} {i j : Nat} {F : Fn} {X : Cx} (h : MthIn P w K mg base D "__call__" j F) (f : CalF K mg c D) (hr : RoomG i X.A) (hl : j ≤ i)
    (h1 : X.prog = P) (h2 : X.w = w) (h3 : X.K = K) (h4 : X.mg = mg) (h5 : X.base = base) : CalC X c F := by
  subst h1 h2 h3 h4 h5
  obtain ⟨fd, ps, F, hb⟩ := h.ex
  obtain ⟨C, hC, cl⟩ := f
  exact ⟨C, _, fd, ps, j, hC, cl, F, hr.mono hl, hb⟩
def calB (K : PySem.W.Frag) (c D : Str) : Bool := okO (PySem.W.nsIn K mainGlobals c) (some (some (.ref (He.ga K c)))) && (okO (PySem.W.findIn K (.ref (He.ga K c)) "__call__") (some (some (.ref (He.ma K (He.ga K D) "__call__")))) &&
  (PySem.W.isFn K (.ref (He.ma K (He.ga K D) "__call__")) && PySem.W.fnIn K (He.ma K (He.ga K D) "__call__")))
theorem calB_ok {K : PySem.W.Frag} {h : Heap} {mg : Str → Option Value} (X : K.In h) (G : h.Ns mainGlobals mg) {c D : Str} (q : calB K c D = true) : CalF K mg c D := by
  obtain ⟨h1, q⟩ := b2 q
  obtain ⟨h2, q⟩ := b2 q
  obtain ⟨h3, h4⟩ := b2 q
  exact ⟨_, PySem.W.mg_of X G (okO_ok h1), okO_ok h2, h3, h4⟩
def spStar (k : Kx) (F : Fn) : Sp := fun vs H Q E => ∃ ws rest, vs = ws ++ rest ∧ ws.length = 1 ∧ rest.length ≤ sizeLine ∧ ∀ p, H p = none → spC k F (ws ++ [V.ref p]) (upd H p (.tup rest)) Q E
structure MkCS (X : Cx) (c : Str) (F : Fn) : Prop where
  ex : ∃ (C f : Addr) (j : Nat), X.mg c = some (.ref C) ∧ Mk X.K C f ∧ FnR X.prog X.w X.K X.mg X.base (L2N.CX X.prog X.w) j f (spStar (k0 X.K X.mg X.w) F) ∧ Room (j + 1) X.A
def eMkS (c : Str) (F : Fn) (ma : Ls → Sto → R (List D)) : EM := fun L S => (ma L S).bind fun ds S1 => if ds.length ≤ sizeLine then mkR S1.length (F [.obj S1.length, .tup ds] (S1 ++ [.ins c [] []])) else .no
theorem mk_spS {c : Str} {F : Fn} {C : Addr} {k : Kx} {ds : List D} {vs : List V} {S1 : Sto} {H1 : Hp} {g1 : G} {Q : VK} {Wf : Value → Option Addr → Hp → Prop} {E : XK} (hC : k.mg c = some (.ref C)) (w1 : WF k H1 g1 S1) (r1 : RepL k H1 g1 ds vs) (hz : ds.length ≤ sizeLine)
    (p1 : Post k (Rep k) H1 g1 Wf (mkR S1.length (F [.obj S1.length, .tup ds] (S1 ++ [.ins c [] []]))) Q) {x dx : Addr} (hx : H1 x = none) (hd : H1 dx = none) (hne : dx ≠ x) :
    spStar k F (.ref x :: vs) (upd (upd H1 dx (.own x)) x (.ins C dx [])) (fun v H2 => v = .non ∧ Q (.ref x) H2) E := by
  refine ⟨[.ref x], vs, rfl, rfl, by rw [r1.length]; exact hz, fun p hp => ?_⟩
  have e2 : Ext H1 g1 (upd H1 dx (.own x)) g1 := Ext.new hd
  have hx' : upd H1 dx (.own x) x = none := by rw [upd_ne (Ne.symm hne)]; exact hx
  have e3 : Ext (upd H1 dx (.own x)) g1 (upd (upd H1 dx (.own x)) x (.ins C dx [])) (g1.push x) := Ext.newPush hx'
  have w3 : WF k (upd (upd H1 dx (.own x)) x (.ins C dx [])) (g1.push x) (S1 ++ [.ins c [] []]) := (w1.new hd).newPush hx' ⟨C, dx, [], hC, upd_same, rfl⟩
  have rx : Rep k (upd (upd H1 dx (.own x)) x (.ins C dx [])) (g1.push x) (.obj S1.length) (.ref x) := ⟨by rw [w1.len]; exact Nat.lt_succ_self _, by
    rw [w1.len]
    show _ = V.ref (if g1.n = g1.n then x else g1.ρ g1.n)
    rw [if_pos rfl]⟩
  have e4 : Ext (upd (upd H1 dx (.own x)) x (.ins C dx [])) (g1.push x) (upd (upd (upd H1 dx (.own x)) x (.ins C dx [])) p (.tup vs)) (g1.push x) := Ext.new hp
  have e24 := (e2.trans e3).trans e4
  refine ⟨[.obj S1.length, .tup ds], _, _, .cons (rx.mono e4.toPExt _ _) (.cons ⟨p, vs, rfl, .inl upd_same, r1.mono e24.toPExt _ _⟩ (show RepL _ _ _ [] [] from rfl)), w3.new hp, ?_⟩
  cases q : F [.obj S1.length, .tup ds] (S1 ++ [.ins c [] []]) with
  | no => rw [q] at p1; exact p1.elim
  | ex y S => rw [q] at p1; exact p1.elim
  | ok d S2 =>
    rw [q] at p1
    cases d with
    | non => exact fun v H' g' e w r => ⟨r, p1 _ H' g' (e24.trans e) w ((rx.mono e4.toPExt _ _).mono e.toPExt _ _)⟩
    | _ => exact p1.elim
section
variable {X : Cx} {W : WX} {e : Expr} {p pos : Pos} {es : List Expr} {ma : Ls → Sto → R (List D)} {c : Str} {F : Fn}
theorem spStar.kc {k k' : Kx} {F : Fn} {vs : List V} {H : Hp} {Q : VK} {E : XK} (h1 : k'.K = k.K) (h2 : k'.mg = k.mg) (h3 : k'.w = k.w) (h : spStar k F vs H Q E) : spStar k' F vs H Q E := by
  obtain ⟨ws, rest, e1, e2, e3, h⟩ := h
  exact ⟨ws, rest, e1, e2, e3, fun p hp => spC.kc h1 h2 h3 (h p hp)⟩
theorem se_makeS (M : MkCS X c F) (hg : Gl X c) (ha : SAE X W (e :: es) ma) (hs : (e :: es).all noStar = true) (hdb : (c == ("__debug__" : Str)) = false) : SE X W (.Call (.Name c p) (e :: es) [] pos) (eMkS c F ma) := by
  obtain ⟨C, f, j, hC, mk, F', hr⟩ := M.ex
  have hs' : noStar e = true ∧ es.all noStar = true := by rwa [List.all_cons, Bool.and_eq_true] at hs
  refine PE.imp (StX.pe_makeR (E := fun _ _ _ => False) mk F' hr hg hC (fun _ _ _ _ _ _ _ z => (no_cxF z).elim) ha hdb (star_cons hs'.1) (star_any hs'.2)) fun σ H Q ⟨L, S, g, l, w, q⟩ =>
    ⟨L, S, g, l, w, Post.bind q fun ds S1 vs H1 g1 e1 w1 r1 p1 => fun x dx hx hd hne => ?_⟩
  by_cases hz : ds.length ≤ sizeLine
  · rw [if_pos hz] at p1
    exact spStar.kc (k := kx X) rfl rfl rfl (mk_spS hC w1 r1 hz p1 hx hd hne)
  · rw [if_neg hz] at p1
    exact p1.elim
theorem se_makeS0 (M : MkCS X c F) (hg : Gl X c) (hdb : (c == ("__debug__" : Str)) = false) : SE X W (.Call (.Name c p) [] [] pos) (eMkS c F aNil) := by
  obtain ⟨C, f, j, hC, mk, F', hr⟩ := M.ex
  refine ⟨fun pins s σ H Q I ⟨L, S, g, l, w, q⟩ => ?_⟩
  refine wpAny_Call_Name_kw (ld_glob I hg hC (PySem.W.callWith_K0 I.kIn mk.kp (StX.run_makeR (us := []) (vs := []) (E := fun _ _ _ => False) mk F' hr (fun _ _ _ _ _ _ _ z => (no_cxF z).elim) I .nil fun x dx hx hd hne => ?_)) hdb)
  have q' : Post (kx X) (Rep (kx X)) H g (L2.WE W σ) (mkR S.length (F [.obj S.length, .tup []] (S ++ [.ins c [] []]))) Q := q
  exact spStar.kc (k := kx X) rfl rfl rfl (mk_spS (ds := []) (vs := []) hC w (show RepL (kx X) H g [] [] from rfl) (Nat.zero_le _) q' hx hd hne)
end
end Rf
set_option Elab.async false
set_option linter.all false
set_option maxRecDepth 100000
set_option maxHeartbeats 4000000
namespace Rf
open PySem L2 TL
theorem cx_up {P : Program} {w : World} : StX.CXUp (L2N.CX P w) := fun outer s H s2 H2 E e s' un kp ho z => by
  obtain ⟨a, B, H', cls, d, ea, fl, hok, ub, z1, z2, z3, z4⟩ := z
  have fr2 : ∀ b o, s.heap.get? b = some o → H b = none → H2 b = none := fun b o q n => un.free b o q n (by simp)
  refine ⟨a, B, H', cls, d, ea, fl, hok, ?_, z1, z2.trans ho, z3, z4⟩
  constructor
  · exact fun b o q n hb => ub.keep b o (kp b o q) (fr2 b o q n) hb
  · exact fun b o q hb => ub.slot b o (kp b o q) hb
  · exact fun b o q n => ub.free b o (kp b o q) (fr2 b o q n)
  · exact fun b o q hb => ub.there b o (kp b o q) hb
  · exact fun b xs q => ub.tups b xs (un.tups b xs q)
  · exact fun b o xs q => ub.frzs b o xs (un.frzs b o xs q)
  · intro b ps q
    obtain ⟨m1, e1⟩ := un.tbls b ps q
    obtain ⟨m2, e2⟩ := ub.tbls b _ e1
    exact ⟨m1 ++ m2, by rw [e2, Array.append_assoc]⟩
theorem rf_fnS {P : Program} {w : World} {K : PySem.W.Frag} {mg : Str → Option Value} {base : Heap} {x qual : Str} {params : Arguments} {body : List Stmt} {scope : Scope} {f : Addr} {fd : FuncData} {N : List Str} {p0 pv : Str} {n j : Nat} {m : SM}
    (F : FunD K x qual params body scope [] [] f fd) (S : FnScope N [p0, pv] scope) (hn : N.length = n)
    (hbind : ∀ (kV doc pm cdv ct : Value) (an : Option Addr) (us rest : List Value), us.length = 1 → bindArgs (PySem.W.fnOf x qual params body scope .none kV doc pm an cdv ct) ⟨us ++ rest, []⟩ = (newTuple rest >>= fun t => pure ([p0].zip us ++ [(pv, t)])))
    (hb : ∀ (cdv : Value) (A : Around) (outer : List Env) (s : Shared) (H : Hp) (E : XK), Room j (A.deeper (PyProof.Rows.envOfC qual scope s.heap.objs.size f cdv)) →
      L2N.Takes (cxOf (L2N.CX P w) P w K mg base N qual scope f cdv A outer s H E) (WE E) → PassesOwn (model P w) (A.deeper (PyProof.Rows.envOfC qual scope s.heap.objs.size f cdv)) (PyProof.Rows.envOfC qual scope s.heap.objs.size f cdv) (cxOf (L2N.CX P w) P w K mg base N qual scope f cdv A outer s H E).xe →
      SB (cxOf (L2N.CX P w) P w K mg base N qual scope f cdv A outer s H E) (WE E) body m) : FnR P w K mg base (L2N.CX P w) (j + 1) f (spStar (k0 K mg w) (fnSem n 2 m)) := by
  obtain ⟨oc, od, dV, kV, doc, pm, an, cdv, ct, osl, rfl, lk, hcd, hD, _⟩ := F.ex
  obtain rfl : dV = .none := by
    rcases hD with ⟨_, e⟩ | ⟨e, _⟩
    · exact e
    · exact absurd rfl e
  refine StX.fn_star (ps := [p0]) lk hcd S cx_up (hbind kV doc pm cdv ct an) (sp := spC (k0 K mg w) (fnSem n 2 m)) ?_
  exact fun A outer s H vs Q E hr h => ⟨_, hb cdv A outer s H E hr (L2N.takes_of (X := cxOf (L2N.CX P w) P w K mg base N qual scope f cdv A outer s H E) rfl rfl rfl rfl) (passes_of (X := cxOf (L2N.CX P w) P w K mg base N qual scope f cdv A outer s H E) rfl), fn_body hn (h.kc rfl rfl rfl)⟩
/-- the maker of D takes all that is handed to it -/
structure IniS (P : Program) (w : World) (K : PySem.W.Frag) (mg : Str → Option Value) (base : Heap) (D : Str) (j : Nat) (c : Fn) : Prop where
  ex : FnR P w K mg base (L2N.CX P w) j (He.ma K (He.ga K D) "__init__") (spStar (k0 K mg w) c)
theorem IniS.mkC {P : Program} {w : World} {K : PySem.W.Frag} {mg : Str → Option Value} {base : Heap} {D c : Str} {i j : Nat} {F : Fn} {X : Cx} (h : IniS P w K mg base D j F) (f : MkF K mg c D) (hr : RoomG i X.A) (hl : j + 1 ≤ i)
    (h1 : X.prog = P) (h2 : X.w = w) (h3 : X.K = K) (h4 : X.mg = mg) (h5 : X.base = base) : MkCS X c F := by
  subst h1 h2 h3 h4 h5
  obtain ⟨C, hC, mk⟩ := f
  exact ⟨C, _, j, hC, mk, h.ex, hr.toRoom.mono hl⟩
section
variable {ma : Ls → Sto → R (List D)} {L : Ls} {S : Sto} {P : D → Sto → Prop} {xp : ExP} {c : Str} {F : Fn}
theorem r_mkS (h : wp (ma L S) fun ds S1 => ds.length ≤ sizeLine ∧ @wp noXP _ (F [.obj S1.length, .tup ds] (S1 ++ [.ins c [] []])) fun d S3 => d = .non ∧ P (.obj S1.length) S3) : wp (eMkS c F ma L S) P := by
  unfold eMkS
  rw [wp_bind]
  refine h.mono fun ds S1 ⟨hz, k⟩ => ?_
  rw [if_pos hz]
  obtain ⟨d, S3, e, rfl, k⟩ := k.ex
  rw [e]
  exact ⟨k⟩
instance : Wp (eMkS c F ma L S) P (wp (ma L S) fun ds S1 => ds.length ≤ sizeLine ∧ @wp noXP _ (F [.obj S1.length, .tup ds] (S1 ++ [.ins c [] []])) fun d S3 => d = .non ∧ P (.obj S1.length) S3) := ⟨r_mkS⟩
end
end Rf
set_option Elab.async false
set_option linter.all false
set_option maxRecDepth 100000
set_option maxHeartbeats 4000000
namespace Rf
open PySem PySem.W PySem.Calls PyProof.Rows PySem.HandSPX Builtin Builtin.ObjectAttr
end Rf
set_option Elab.async false
set_option linter.all false
set_option maxRecDepth 100000
set_option maxHeartbeats 4000000
namespace Rf
open PySem L2 TL
/-- isinstance(the error, (C1, C2)) -/
def eIs2 (t1 t2 : IsT) (i : Nat) : EM := fun L S => match L[i]? with
  | some (.exc x) => if x.fs.isEmpty = true then .no else match t1 x.cls, t2 x.cls with
    | some b1, some b2 => .ok (.bl (b1 || b2)) S
    | _, _ => .no
  | _ => .no
section
variable {t1 t2 : IsT} {i : Nat} {L : Ls} {S : Sto} {P : D → Sto → Prop} {xp : ExP}
theorem r_is2 (h : ∃ x, L[i]? = some (.exc x) ∧ x.fs.isEmpty = false ∧ ∃ b1, t1 x.cls = some b1 ∧ ∃ b2, t2 x.cls = some b2 ∧ P (.bl (b1 || b2)) S) : wp (eIs2 t1 t2 i L S) P := by
  obtain ⟨x, e1, e2, b1, e3, b2, e4, k⟩ := h
  unfold eIs2
  rw [e1]
  simp only [e2, Bool.false_eq_true, if_false, e3, e4]
  exact ⟨k⟩
instance : Wp (eIs2 t1 t2 i L S) P (∃ x, L[i]? = some (.exc x) ∧ x.fs.isEmpty = false ∧ ∃ b1, t1 x.cls = some b1 ∧ ∃ b2, t2 x.cls = some b2 ∧ P (.bl (b1 || b2)) S) := ⟨r_is2⟩
end
end Rf
set_option Elab.async false
set_option linter.all false
set_option maxRecDepth 100000
set_option maxHeartbeats 1000000
namespace Rf
open PySem L2 TL
end Rf
set_option Elab.async false
set_option linter.all false
set_option maxRecDepth 100000
set_option maxHeartbeats 1000000
namespace Rf
open PySem L2 TL
section
variable {X : Cx} {W : WX} {e : Expr} {m : EM} {pos pos' : Pos}
def sExtT (i : Nat) (m : EM) : SM := fun L S => match L[i]? with
  | some (.o (.lst ds)) => (m L S).st L fun d S1 => match d with
    | .tup es => if ds.length + es.length ≤ sizeLine then .ok .nx (L.set i (.o (.lst (ds ++ es)))) S1 else .no
    | _ => .no
  | _ => .no
variable {L : Ls} {S : Sto} {PS : Fl → Ls → Sto → Prop} {i : Nat}
instance : Ws (sExtT i m L S) PS (∃ ds, L[i]? = some (.o (.lst ds)) ∧ wp (m L S) fun d S1 => ∃ es, d = .tup es ∧ ds.length + es.length ≤ sizeLine ∧ PS .nx (L.set i (.o (.lst (ds ++ es)))) S1) := ⟨fun ⟨ds, e, h⟩ => by
  unfold sExtT
  rw [e]
  dsimp only
  rw [wps_st]
  refine h.mono fun d S1 ⟨es, e, hz, h⟩ => ?_
  subst e
  dsimp only
  rw [if_pos hz]
  exact ⟨h⟩⟩
end
end Rf
set_option Elab.async false
set_option linter.all false
set_option maxRecDepth 100000
set_option maxHeartbeats 1000000
namespace Rf
open PySem L2 TL
end Rf
set_option Elab.async false
set_option linter.all false
set_option maxRecDepth 100000
set_option maxHeartbeats 1000000
namespace Rf
open PySem L2 TL PyProof.Rows
def nLook (S : Sto) (o y : D) : Option (Option D) := match o, kNk y with
  | .obj n, some q => match S[n]? with
    | some (.dN kvs) => some (nGet kvs q)
    | _ => none
  | _, _ => none
def eGetN (mo mk : EM) : EM := fun L S => (mo L S).bind fun o S1 => (mk L S1).bind fun y S2 => match nLook S2 o y with
  | some (some d) => .ok d S2
  | _ => .no
def eInN (neg : Bool) (mk mo : EM) : EM := fun L S => (mk L S).bind fun y S1 => (mo L S1).bind fun o S2 => match nLook S2 o y with
  | some r => .ok (.bl (neg != r.isSome)) S2
  | none => .no
/-- d[k] = v, a new key -/
def sPutN (mo mk mv : EM) : SM := fun L S => (mv L S).st L fun d S1 => (mo L S1).st L fun o S2 => (mk L S2).st L fun y S3 => match o, kNk y with
  | .obj n, some q => match S3[n]? with
    | some (.dN kvs) => if kvs.length < sizeLine ∧ nGet kvs q = none then .ok .nx L (S3.set n (.dN (kvs ++ [(q, d)]))) else .no
    | _ => .no
  | _, _ => .no
section
variable {xp : ExP} {P : D → Sto → Prop} {PS : Fl → Ls → Sto → Prop} {L : Ls} {S : Sto} {a b c : EM} {ng : Bool}
theorem r_getN (h : wp (a L S) fun o S1 => wp (b L S1) fun y S2 => ∃ d, nLook S2 o y = some (some d) ∧ P d S2) : wp (eGetN a b L S) P := by
  unfold eGetN
  rw [wp_bind]
  refine h.mono fun o S1 h => ?_
  rw [wp_bind]
  refine h.mono fun y S2 ⟨d, e, k⟩ => ?_
  rw [e]
  exact ⟨k⟩
theorem r_inN (h : wp (a L S) fun y S1 => wp (b L S1) fun o S2 => ∃ r, nLook S2 o y = some r ∧ P (.bl (ng != r.isSome)) S2) : wp (eInN ng a b L S) P := by
  unfold eInN
  rw [wp_bind]
  refine h.mono fun o S1 h => ?_
  rw [wp_bind]
  refine h.mono fun y S2 ⟨d, e, k⟩ => ?_
  rw [e]
  exact ⟨k⟩
theorem q_putN (h : wp (c L S) fun d S1 => wp (a L S1) fun o S2 => wp (b L S2) fun y S3 => ∃ n q kvs, o = .obj n ∧ kNk y = some q ∧ S3[n]? = some (.dN kvs) ∧ kvs.length < sizeLine ∧ nGet kvs q = none ∧ ∀ S', S3.set n (.dN (kvs ++ [(q, d)])) = S' → PS .nx L S') : wps (sPutN a b c L S) PS := by
  unfold sPutN
  rw [wps_st]
  refine h.mono fun d S1 h => ?_
  rw [wps_st]
  refine h.mono fun o S2 h => ?_
  rw [wps_st]
  refine h.mono fun y S3 ⟨n, q, kvs, e, e1, e2, e3, e4, k⟩ => ?_
  subst e
  rw [e1]
  dsimp only
  rw [e2]
  dsimp only
  rw [if_pos ⟨e3, e4⟩]
  exact ⟨k _ rfl⟩
instance : Wp (eGetN a b L S) P (wp (a L S) fun o S1 => wp (b L S1) fun y S2 => ∃ d, nLook S2 o y = some (some d) ∧ P d S2) := ⟨r_getN⟩
instance : Wp (eInN ng a b L S) P (wp (a L S) fun y S1 => wp (b L S1) fun o S2 => ∃ r, nLook S2 o y = some r ∧ P (.bl (ng != r.isSome)) S2) := ⟨r_inN⟩
instance : Ws (sPutN a b c L S) PS (wp (c L S) fun d S1 => wp (a L S1) fun o S2 => wp (b L S2) fun y S3 => ∃ n q kvs, o = .obj n ∧ kNk y = some q ∧ S3[n]? = some (.dN kvs) ∧ kvs.length < sizeLine ∧ nGet kvs q = none ∧ ∀ S', S3.set n (.dN (kvs ++ [(q, d)])) = S' → PS .nx L S') := ⟨q_putN⟩
end
end Rf
set_option Elab.async false
set_option linter.all false
set_option maxRecDepth 100000
set_option maxHeartbeats 1000000
namespace Rf
open PySem L2 TL
def fRng (m : EM) : Ls → Sto → R (List D) := fun L S => (m L S).bind fun d S1 => match d with
  | .int n => if 0 ≤ n ∧ n ≤ 10000 then .ok (rngI 0 n.toNat) S1 else .no
  | _ => .no
def inKs : DctK → Option (List Int)
  | [] => some []
  | (.inl i, _) :: r => (inKs r).map (i :: ·)
  | (.inr _, _) :: _ => none
def fSrtI (mo : EM) : Ls → Sto → R (List D) := fun L S => (mo L S).bind fun o S1 => match o with
  | .obj n => match S1[n]? with
    | some (.dK kvs) => match inKs kvs with
      | some ks => if ks.length < 64 then .ok ((srtI ks).map .int) S1 else .no
      | none => .no
    | _ => .no
  | _ => .no
def iRev (m : EM) : Ls → Sto → R Src := fun L S => (m L S).bind fun d S1 => match d with
  | .lst ds => .ok (ds.reverse, none) S1
  | _ => .no
section
variable {xp : ExP} {P : D → Sto → Prop} {PL : List D → Sto → Prop} {PI : Src → Sto → Prop} {L : Ls} {S : Sto} {m : EM}
theorem r_fRng (h : wp (m L S) fun d S1 => ∃ n, d = .int n ∧ (0 ≤ n ∧ n ≤ 10000) ∧ PL (rngI 0 n.toNat) S1) : wp (fRng m L S) PL := by
  unfold fRng
  rw [wp_bind]
  refine h.mono fun d S1 ⟨n, e, h1, k⟩ => ?_
  subst e
  dsimp only
  rw [if_pos h1]
  exact ⟨k⟩
theorem r_fSrtI (h : wp (m L S) fun o S1 => ∃ n kvs ks, o = .obj n ∧ S1[n]? = some (.dK kvs) ∧ inKs kvs = some ks ∧ ks.length < 64 ∧ PL ((srtI ks).map .int) S1) : wp (fSrtI m L S) PL := by
  unfold fSrtI
  rw [wp_bind]
  refine h.mono fun o S1 ⟨n, kvs, ks, e, e1, e2, e3, k⟩ => ?_
  subst e
  dsimp only
  rw [e1]
  dsimp only
  rw [e2]
  dsimp only
  rw [if_pos e3]
  exact ⟨k⟩
theorem r_iRev (h : wp (m L S) fun d S1 => ∃ ds, d = .lst ds ∧ PI (ds.reverse, none) S1) : wp (iRev m L S) PI := by
  unfold iRev
  rw [wp_bind]
  refine h.mono fun d S1 ⟨ds, e, k⟩ => ?_
  subst e
  exact ⟨k⟩
instance : Wp (fRng m L S) PL (wp (m L S) fun d S1 => ∃ n, d = .int n ∧ (0 ≤ n ∧ n ≤ 10000) ∧ PL (rngI 0 n.toNat) S1) := ⟨r_fRng⟩
instance : Wp (fSrtI m L S) PL (wp (m L S) fun o S1 => ∃ n kvs ks, o = .obj n ∧ S1[n]? = some (.dK kvs) ∧ inKs kvs = some ks ∧ ks.length < 64 ∧ PL ((srtI ks).map .int) S1) := ⟨r_fSrtI⟩
instance : Wp (iRev m L S) PI (wp (m L S) fun d S1 => ∃ ds, d = .lst ds ∧ PI (ds.reverse, none) S1) := ⟨r_iRev⟩
end
end Rf
set_option Elab.async false
set_option linter.all false
set_option maxRecDepth 100000
set_option maxHeartbeats 1000000
namespace Rf
open PySem L2 TL
/-- the getter of the property f of C -/
def prG (K : PySem.W.Frag) (C : Addr) (f : Str) : Addr := match PySem.W.recIn K (He.ma K C f) "property" with
  | some (.ref g :: _) => g
  | _ => 0
def PrpF (K : PySem.W.Frag) (mg : Str → Option Value) (c D f : Str) : Prop := ∃ C p, mg c = some (.ref C) ∧ Cls K C ∧ PropOf K C f p (prG K (He.ga K D) f)
structure PrpIn (P : Program) (w : World) (K : PySem.W.Frag) (mg : Str → Option Value) (base : Heap) (D f : Str) (j : Nat) (c : Fn) : Prop where
  ex : ∃ (fd : FuncData) (ps : List Str), FnOkG P w K mg base (L2N.CX P w) j (prG K (He.ga K D) f) fd ps (spC (k0 K mg w) c) ∧ Binds K fd ps []
structure PrpC (X : Cx) (f : Str) (c : Str) (F : Fn) : Prop where
  ex : ∃ (C p g : Addr) (fd : FuncData) (ps : List Str) (j : Nat), X.mg c = some (.ref C) ∧ Cls X.K C ∧ PropOf X.K C f p g ∧ FnOkG X.prog X.w X.K X.mg X.base (L2N.CX X.prog X.w) j g fd ps (spC (k0 X.K X.mg X.w) F) ∧ RoomG (j + 1) X.A ∧ Binds X.K fd ps []
theorem PrpIn.at {P : Program} {w : World} {K : PySem.W.Frag} {mg : Str → Option Value} {base : Heap} {D m c : Str} {i j : Nat} {F : Fn} {X : Cx} (h : PrpIn P w K mg base D m j F) (f : PrpF K mg c D m) (hr : RoomG i X.A) (hl : j + 1 ≤ i)
    (h1 : X.prog = P) (h2 : X.w = w) (h3 : X.K = K) (h4 : X.mg = mg) (h5 : X.base = base) : PrpC X m c F := by
  subst h1 h2 h3 h4 h5
  obtain ⟨fd, ps, F, hb⟩ := h.ex
  obtain ⟨C, p, hC, cl, hp⟩ := f
  exact ⟨C, p, _, fd, ps, j, hC, cl, hp, F, hr.mono hl, hb⟩
def eProp (ms : List (Str × Fn)) (mo : EM) : EM := fun L S => (mo L S).bind fun d S1 => match insOf S1 d with
  | some (c, _, _) => match ms.lookup c with
    | some F => (F [d] S1).nox
    | none => .no
  | none => .no
section
variable {xp : ExP} {P : D → Sto → Prop} {L : Ls} {S : Sto} {m : EM} {ms : List (Str × Fn)}
theorem r_prop (h : wp (m L S) fun d S1 => ∃ c ns ds, insOf S1 d = some (c, ns, ds) ∧ ∃ F, ms.lookup c = some F ∧ @wp noXP _ (F [d] S1) P) : wp (eProp ms m L S) P := by
  unfold eProp
  rw [wp_bind]
  refine h.mono fun d S1 ⟨c, ns, ds, e1, F, e2, k⟩ => ?_
  rw [e1]
  dsimp only
  rw [e2]
  dsimp only
  cases q : F [d] S1 with
  | no => rw [q] at k; exact k.out.elim
  | ex x S2 => rw [q] at k; exact k.out.elim
  | ok y S2 => rw [q] at k; exact ⟨k.out⟩
instance : Wp (eProp ms m L S) P (wp (m L S) fun d S1 => ∃ c ns ds, insOf S1 d = some (c, ns, ds) ∧ ∃ F, ms.lookup c = some F ∧ @wp noXP _ (F [d] S1) P) := ⟨r_prop⟩
end
end Rf
set_option Elab.async false
set_option linter.all false
set_option maxRecDepth 100000
set_option maxHeartbeats 0
namespace Rf
open PySem L2 TL
def fMul (ma mb : EM) : Ls → Sto → R (List D) := fun L S => (ma L S).bind fun d S1 => (mb L S1).bind fun e S2 => match deref S2 d, e with
  | .lst a, .int b => if -(2 ^ 63) ≤ b ∧ b < 2 ^ 63 ∧ a.length * b.toNat ≤ sizeLine then .ok (List.replicate b.toNat a).flatten S2 else .no
  | _, _ => .no
theorem r_fMul {xp : ExP} {ma mb : EM} {L : Ls} {S : Sto} {PL : List D → Sto → Prop} (h : wp (ma L S) fun d S1 => wp (mb L S1) fun e S2 => ∃ a b, deref S2 d = .lst a ∧ e = .int b ∧ (-(2 ^ 63) ≤ b ∧ b < 2 ^ 63 ∧ a.length * b.toNat ≤ sizeLine) ∧ PL (List.replicate b.toNat a).flatten S2) : wp (fMul ma mb L S) PL := by
  unfold fMul
  rw [wp_bind]
  refine h.mono fun d S1 k => ?_
  rw [wp_bind]
  refine k.mono fun e S2 ⟨a, b, h1, h2, h3, h4⟩ => ?_
  subst h2
  rw [h1]
  dsimp only
  rw [if_pos h3]
  exact ⟨h4⟩
instance {xp : ExP} {ma mb : EM} {L : Ls} {S : Sto} {PL : List D → Sto → Prop} : Wp (fMul ma mb L S) PL (wp (ma L S) fun d S1 => wp (mb L S1) fun e S2 => ∃ a b, deref S2 d = .lst a ∧ e = .int b ∧ (-(2 ^ 63) ≤ b ∧ b < 2 ^ 63 ∧ a.length * b.toNat ≤ sizeLine) ∧ PL (List.replicate b.toNat a).flatten S2) := ⟨r_fMul⟩
end Rf
set_option Elab.async false
set_option linter.all false
set_option maxRecDepth 100000
set_option maxHeartbeats 1000000
namespace Rf
open PySem L2 TL PySem.Spec PyProof.Rows
section
variable {X : Cx} {W : WX}
def eUpd (mo me : EM) : EM := fun L S => (mo L S).bind fun o S1 => match dLook S1 o (.int 0) with
  | some _ => (me L S1).bind fun x S2 => match o, x with
    | .obj n, .obj m => match S2[n]?, S2[m]? with
      | some (.dK kvs), some (.dK more) => if n ≠ m ∧ kvs.length + more.length ≤ sizeLine then .ok .non (S2.set n (.dK (mgK kvs more))) else .no
      | _, _ => .no
    | _, _ => .no
  | none => .no
variable {o e : Expr} {apos pos : Pos} {mo me : EM}
end
section
variable {L : Ls} {S : Sto} {xp : ExP} {P : D → Sto → Prop} {mo me : EM}
theorem r_upd (h : wp (mo L S) fun o S1 => ∃ n, o = .obj n ∧ (∃ r, dLook S1 o (.int 0) = some r) ∧ wp (me L S1) fun x S2 => ∃ m kvs more, x = .obj m ∧ n ≠ m ∧ S2[n]? = some (.dK kvs) ∧ S2[m]? = some (.dK more) ∧ kvs.length + more.length ≤ sizeLine ∧ ∀ S', S2.set n (.dK (mgK kvs more)) = S' → P .non S') : wp (eUpd mo me L S) P := by
  unfold eUpd
  rw [wp_bind]
  refine h.mono fun o S1 ⟨n, e, ⟨r, e1⟩, k⟩ => ?_
  subst e
  rw [e1]
  dsimp only
  rw [wp_bind]
  refine k.mono fun x S2 ⟨m, kvs, more, e, hne, e2, e3, hz, k⟩ => ?_
  subst e
  dsimp only
  rw [e2, e3]
  dsimp only
  rw [if_pos ⟨hne, hz⟩]
  exact ⟨k _ rfl⟩
instance : Wp (eUpd mo me L S) P (wp (mo L S) fun o S1 => ∃ n, o = .obj n ∧ (∃ r, dLook S1 o (.int 0) = some r) ∧ wp (me L S1) fun x S2 => ∃ m kvs more, x = .obj m ∧ n ≠ m ∧ S2[n]? = some (.dK kvs) ∧ S2[m]? = some (.dK more) ∧ kvs.length + more.length ≤ sizeLine ∧ ∀ S', S2.set n (.dK (mgK kvs more)) = S' → P .non S') := ⟨r_upd⟩
end
end Rf
set_option Elab.async false
set_option linter.all false
set_option maxRecDepth 100000
set_option maxHeartbeats 1000000
namespace Rf
open PySem L2 TL
end Rf
set_option Elab.async false
set_option linter.all false
set_option maxRecDepth 100000
set_option maxHeartbeats 4000000
namespace RH
open PySem PySem.Spec PyProof.Rows
end RH
set_option Elab.async false
set_option linter.all false
set_option maxRecDepth 100000
set_option maxHeartbeats 4000000
namespace RH
open PySem PySem.Spec PyProof.Rows L2
abbrev HotC := L2H.HotC
end RH
set_option Elab.async false
set_option linter.all false
set_option maxRecDepth 100000
set_option maxHeartbeats 4000000
namespace RH
open PySem PySem.Spec PyProof.Rows L2
/-- p is what is handled, and the first of the pins -/
structure HotP (X : Cx) (p : Addr × Obj) : Prop where
  calm : X.calm = false
  hot : L2H.Hot1 X.A p
  hd : X.pn.head? = some p
theorem HotP.mem {X : Cx} {p : Addr × Obj} (h : HotP X p) : p ∈ X.pn := List.mem_of_mem_head? h.hd
theorem HotP.c {X : Cx} {p : Addr × Obj} (h : HotP X p) : HotC X := ⟨p, h.hot, h.mem⟩
/-- the context of a block there -/
abbrev blkH (X : Cx) (s : Shared) (H : Hp) (scope : Scope) (cenv : Env) (fp : List Addr) (p : Addr × Obj) : Cx := (X.blk s H scope cenv fp).tr [p] (fun _ _ => False)
theorem HotP.blk {X : Cx} {p : Addr × Obj} (h : HotP X p) {s : Shared} {H : Hp} {scope : Scope} {cenv : Env} {fp : List Addr} : HotP (blkH X s H scope cenv fp p) p := ⟨h.calm, h.hot, rfl⟩
end RH
set_option Elab.async false
set_option linter.all false
set_option maxRecDepth 100000
set_option maxHeartbeats 4000000
namespace RH
open PySem PySem.Spec PyProof.Rows
open L2
theorem PIH.imp {X : Cx} {tg e : Expr} {t t' : TI} (h : L2H.PIH X tg e t) (i : ∀ σ H Q, t' σ H Q → t σ H Q) : L2H.PIH X tg e t' := ⟨fun pins s σ H Q I q => h.run pins s σ H Q I (i σ H Q q)⟩
theorem PIH.or {X : Cx} {tg e : Expr} {w1 w2 : TI} (h1 : L2H.PIH X tg e w1) (h2 : L2H.PIH X tg e w2) : L2H.PIH X tg e (fun σ H R => w1 σ H R ∨ w2 σ H R) := ⟨fun pins s σ H R I h => h.elim (h1.run pins s σ H R I) (h2.run pins s σ H R I)⟩
end RH
theorem L2H.RoomH.units {k : Nat} {A : PySem.Around} (r : L2H.RoomH k A) : A.units + 64 < PySem.cLine := by have := r.un; omega
namespace Rf
open PySem L2 TL RH
theorem RH.HotP.k {X : Cx} {p : Addr × Obj} (h : RH.HotP X p) : kx X = ⟨X.K, X.mg, some p, X.w⟩ := by
  unfold kx
  rw [h.calm, if_neg Bool.false_ne_true, h.hd]
end Rf
set_option Elab.async false
set_option linter.all false
set_option maxRecDepth 100000
set_option maxHeartbeats 4000000
namespace Rf
open PySem L2 TL
section
variable {X : Cx} {W : WX} {hp0 : Addr × Obj} {c tg iter elt a b e : Expr} {es ifs : List Expr} {body : List Stmt} {pos : Pos} {i j kk : Nat} {x y : Str} {mi : Ls → Sto → R Src} {t : Tg} {ts : List Tg} {bd : SM} {tt : Ls → Sto → R Bool} {te : EM} {ma : Ls → Sto → R (List D)}
/-- the name x stands for a def that does c, also there -/
def FnAtH (X : Cx) (x : Str) (c : Fn) : Prop := ∃ (j : Nat) (f : Addr) (fd : FuncData) (ps : List Str), L2H.FnH X.prog X.w X.K X.mg X.base (L2N.CX X.prog X.w) j f fd ps (spC (k0 X.K X.mg X.w) c) ∧ L2H.RoomH j X.A ∧
  X.mg x = some (.ref f) ∧ PySem.W.keepIn X.K (.ref f) = true ∧ Binds X.K fd ps []
end
def FnInH (P : Program) (w : World) (K : PySem.W.Frag) (mg : Str → Option Value) (base : Heap) (x : Str) (j : Nat) (c : Fn) : Prop :=
  ∃ (f : Addr) (fd : FuncData) (ps : List Str), L2H.FnH P w K mg base (L2N.CX P w) j f fd ps (spC (k0 K mg w) c) ∧ mg x = some (.ref f) ∧ PySem.W.keepIn K (.ref f) = true ∧ Binds K fd ps []
theorem FnInH.at {P : Program} {w : World} {K : PySem.W.Frag} {mg : Str → Option Value} {base : Heap} {x : Str} {i j : Nat} {c : Fn} {X : Cx} (h : FnInH P w K mg base x j c) (hr : L2H.RoomH i X.A) (hl : j ≤ i)
    (h1 : X.prog = P) (h2 : X.w = w) (h3 : X.K = K) (h4 : X.mg = mg) (h5 : X.base = base) : FnAtH X x c := by
  subst h1 h2 h3 h4 h5
  obtain ⟨f, fd, ps, F, hm, hk, hb⟩ := h
  exact ⟨j, f, fd, ps, F, hr.mono hl, hm, hk, hb⟩
end Rf
set_option Elab.async false
set_option linter.all false
set_option maxRecDepth 100000
set_option maxHeartbeats 4000000
namespace RH
open PySem PySem.Spec PyProof.Rows PySem.W L2
end RH
namespace Rf
open PySem L2 TL
/-- len(x), x an instance -/
def eLenI (ms : List (Str × Fn)) (mo : EM) : EM := fun L S => (mo L S).bind fun d S1 => match insOf S1 d with
  | some (c, _, _) => match ms.lookup c with
    | some F => (F [d] S1).nox.bind fun r S2 => match r with
      | .int n => if 0 ≤ n ∧ n < 2 ^ 63 then .ok (.int n) S2 else .no
      | _ => .no
    | none => .no
  | none => .no
section
variable {X : Cx} {W : WX} {o : Expr} {ms : List (Str × Fn)} {mo : EM} {p pos : Pos}
structure LenC (X : Cx) (c : Str) (F : Fn) : Prop where
  ex : ∃ (C f : Addr) (fd : FuncData) (ps : List Str) (j : Nat), X.mg c = some (.ref C) ∧ Meth X.K C "__len__" f ∧ FnOkG X.prog X.w X.K X.mg X.base (L2N.CX X.prog X.w) j f fd ps (spC (k0 X.K X.mg X.w) F) ∧ RoomG (j + 1) X.A ∧ Binds X.K fd ps []
theorem MthIn.len {P : Program} {w : World} {K : PySem.W.Frag} {mg : Str → Option Value} {base : Heap} {D c : Str} {i j : Nat} {F : Fn} {X : Cx} (h : MthIn P w K mg base D "__len__" j F) (f : MthF K mg c D "__len__") (hr : RoomG i X.A) (hl : j + 1 ≤ i)
    (h1 : X.prog = P) (h2 : X.w = w) (h3 : X.K = K) (h4 : X.mg = mg) (h5 : X.base = base) : LenC X c F := by
  subst h1 h2 h3 h4 h5
  obtain ⟨fd, ps, F, hb⟩ := h.ex
  obtain ⟨C, hC, cl, mt⟩ := f
  exact ⟨C, _, fd, ps, j, hC, mt, F, hr.mono hl, hb⟩
theorem r_lenI {L : Ls} {S : Sto} {P : D → Sto → Prop} {xp : ExP} (h : wp (mo L S) fun d S1 => ∃ c ns ds, insOf S1 d = some (c, ns, ds) ∧ ∃ F, ms.lookup c = some F ∧ @wp noXP _ (F [d] S1) fun r S2 => ∃ n, r = .int n ∧ (0 ≤ n ∧ n < 2 ^ 63) ∧ P (.int n) S2) : wp (eLenI ms mo L S) P := by
  unfold eLenI
  rw [wp_bind]
  refine h.mono fun d S1 ⟨c, ns, ds, e1, F, e2, k⟩ => ?_
  obtain ⟨r, S2, e3, n, rfl, hn, k⟩ := k.ex
  simp only [e1, e2, e3]
  show wp (if 0 ≤ n ∧ n < 2 ^ 63 then .ok (.int n) S2 else .no) P
  rw [if_pos hn]
  exact ⟨k⟩
instance {L : Ls} {S : Sto} {P : D → Sto → Prop} {xp : ExP} : Wp (eLenI ms mo L S) P (wp (mo L S) fun d S1 => ∃ c ns ds, insOf S1 d = some (c, ns, ds) ∧ ∃ F, ms.lookup c = some F ∧ @wp noXP _ (F [d] S1) fun r S2 => ∃ n, r = .int n ∧ (0 ≤ n ∧ n < 2 ^ 63) ∧ P (.int n) S2) := ⟨r_lenI⟩
end
end Rf
set_option Elab.async false
set_option linter.all false
set_option maxRecDepth 100000
set_option maxHeartbeats 4000000
namespace RK
open PySem PySem.Spec PyProof.Rows PySem.W
section
variable {prog : Program} {w : World} {A : Around} {E : Value → Shared → Prop} {s : Shared} {K : Frag} {C : Addr} {name : Str} {t : Tok}
/-- an AttributeError with a text -/
theorem raise_attr {α : Type} {msg : Str} {Q : α → Shared → Prop} (hh : A.handled = none) (hm : msg.length ≤ sizeLine)
    (h : ∀ h' tk e, (∀ b o, s.heap.get? b = some o → h'.get? b = some o) → (∃ o, h'.get? e = some o ∧ o.cls = .type "AttributeError") → E (.ref e) { s with heap := h', toks := tk }) :
    wpAny (model prog w) A (raiseErrorStr "AttributeError" msg : Sem α) Q E s := by
  unfold raiseErrorStr
  refine wpAny_bind (wpAny_mkStr (wpAny_bind ?_) hm)
  unfold newExc newTuple
  refine wpAny_bind (wpAny_newObj_type (wpAny_bind (m := firstArgMember _ _) (wpAny_of_eq (a := Value.none) (by simp only [firstArgMember, attrError_no_first]; rfl) ?_)) (by size_fits))
  rw [ownMembersOf_AttributeError]
  refine wpAny_newObj_type ?_ (by size_fits)
  unfold raiseNew
  refine wpAny_bind (wpAny_handled ?_)
  rw [hh]
  refine wpAny_bind (wpAny_pure (wpAny_throw (h _ _ _ (fun b o e => Heap.get?_push_of_some _ (Heap.get?_push_of_some _ e)) ⟨_, Heap.get?_push_size _ rfl, rfl⟩)))
/-- the class has no such attribute -/
structure Miss (K : Frag) (C : Addr) (name : Str) : Prop where
  ty : typeIn K (.ref C) = some (.type "type")
  op : nsIn K cStatics "thirdparty.any" = some none
  tn : typeLookup (.type "type") name = pure none
  cn : findIn K (.ref C) name = some none
  cd : ∃ cd, clsIn K C = some cd ∧ cd.name.cps.foldl (fun k c => k + (Str.utf8Of c).length) 0 ≤ 100 ∧ (Str.ofString s!"type object '{cd.name.toString}' has no attribute '" ++ name ++ "'").length ≤ sizeLine
theorem cls_miss {Q : Option Value → Shared → Prop} (hh : A.handled = none) (X : K.In s.heap) (m : Miss K C name) (h : ∀ h' tk, (∀ b o, s.heap.get? b = some o → h'.get? b = some o) → Q none { s with heap := h', toks := tk }) :
    wpAny (model prog w) A (getAttrBy? (.ref C) (.str name t)) Q E s := by
  obtain ⟨cd, hcd, hsz, hlen⟩ := m.cd
  have L1 : Looks (model prog w) s.heap (typeOf (.ref C)) (.type "type") := looks_typeIn X m.ty
  have L2 : Looks (model prog w) s.heap (typeLookup (.type "type") "__getattribute__") (some (.builtin "type.__getattribute__")) := looks_findIn (K := []) (fun _ _ e => by cases e) type_tga
  have L3 : Looks (model prog w) s.heap (opaqueClassAbove (.ref C)) none := looks_opaque X m.op
  have L4 : Looks (model prog w) s.heap (typeLookup (.ref C) name) none := looks_findIn X m.cn
  have L5 : Looks (model prog w) s.heap (classData C) cd := looks_clsIn X hcd
  have L6 : Looks (model prog w) s.heap (isInstance (.ref C) (.type "type")) true := L1.andThen (Looks.of_pure (by rw [isSubtype_type]; kernel_rfl))
  have miss : ∀ (A' : Around) (E' : Value → Shared → Prop) (Q' : Value → Shared → Prop), A'.handled = none → (∀ h' tk e, (∀ b o, s.heap.get? b = some o → h'.get? b = some o) → (∃ o, h'.get? e = some o ∧ o.cls = .type "AttributeError") → E' (.ref e) { s with heap := h', toks := tk }) →
      wpAny (model prog w) A' (call (.builtin "type.__getattribute__") [.ref C, .str name t]) Q' E' s := fun A' E' Q' hA hE => by
    refine wpAny_call (codeAny_call_builtin KF.slot_tga.plain KF.entry_tga ?_)
    refine @check_slot (model prog w) _ _ s "type.__getattribute__" "type" "__getattribute__" (.ref C) [.str name t] [] _ (by decide +kernel) (by decide +kernel) L6 (KF.args_tga (.ref C) (.str name t)) ?_
    unfold Builtin.«type.__getattribute__»
    refine wpAny_bind (wpAny_pure (wpAny_bind (L3.at (wpAny_bind (L1.at ?_)))))
    rw [m.tn]
    refine wpAny_bind (wpAny_pure (wpAny_bind (wpAny_pure (wpAny_bind (L4.at ?_)))))
    refine wpAny_bind (wpAny_rule (wpAny_bind ?_))
    unfold typeNameCut
    refine wpAny_bind (L5.at ?_)
    rw [if_pos hsz]
    exact wpAny_pure (raise_attr (A := A'.in1) hA hlen hE)
  have isE : ∀ {A' : Around} {E' : Value → Shared → Prop} {Q' : Bool → Shared → Prop} {e : Addr} {s' : Shared}, (∃ o, s'.heap.get? e = some o ∧ o.cls = .type "AttributeError") → Q' true s' → wpAny (model prog w) A' (isInstance (.ref e) (.type "AttributeError")) Q' E' s' := fun {A' E' Q' e s'} ⟨o, ho, hc⟩ q =>
    wpAny_isInstance (T := "AttributeError") (b := true) ⟨o, ho, hc⟩ sub_AttributeError q
  unfold getAttrBy?
  refine wpAny_bind (wpAny_attempt ?_)
  unfold getAttrBy
  refine wpAny_holding (wpAny_bind (L1.at (wpAny_bind (L2.at ?_))))
  show wpAny _ _ (getAttrByItsOwn _ _ _ _ _ _) _ _ _
  unfold getAttrByItsOwn hookBefore
  refine wpAny_bind (wpAny_pure (wpAny_bind (wpAny_attempt (wpAny_holding ?_))))
  unfold callGetattribute
  rw [if_neg (by decide)]
  unfold boundAndCalled
  rw [KF.slot_tga.bind]
  refine wpAny_bind (wpAny_pure (miss _ _ _ hh fun h' tk e k ho => ?_))
  show wpAny _ _ (getattributeRaised _ _ _ _ _ _ _) _ _ _
  unfold getattributeRaised
  refine wpAny_bind (isE ho ?_)
  rw [if_pos rfl]
  have tg : typeLookup (.type "type") "__getattr__" = pure none := by rw [typeLookup_type, builtinLookup_eq_fast]; kernel_rfl
  show wpAny _ _ (hookBehind (.type "type") none >>= _) _ _ _
  unfold hookBehind
  rw [if_neg (show ¬ (onTheHeap (.type "type") = true) from by decide), tg]
  refine wpAny_bind (wpAny_pure ?_)
  unfold hookOrError
  dsimp only
  unfold attributeErrorLeaves
  simp only [Bool.not_false, if_true]
  refine wpAny_throw ?_
  exact wpAny_bind (isE ho (by rw [if_pos rfl]; exact wpAny_pure (h h' tk k)))
end
section
variable {prog : Program} {w : World} {A : Around} {E : Value → Shared → Prop} {s : Shared} {K : Frag} {x y C D f g : Addr} {ox oy : Obj} {od oe : Option Obj} {nm : String}
/-- the class D, below C or not, has the operator as well; no class has it reflected -/
structure OpAt (K : Frag) (C : Addr) (nm : String) (f : Addr) : Prop where
  sf : selfFirst K C = true
  hs : findIn K (.ref C) (PySem.dunder nm) = some (some (.ref f))
  hf : isFn K (.ref f) = true
  hr : findIn K (.ref C) (dunderR nm) = some none
theorem reflected_no {Q : Bool → Shared → Prop} (hh : A.handled = none) (X : K.In s.heap) (c : OpAt K C nm f) (d : OpAt K D nm g) (m : Miss K D (dunderR nm)) (hz : (dunderR nm).length ≤ sizeLine) (h : ∀ h' tk, (∀ b o, s.heap.get? b = some o → h'.get? b = some o) → Q false { s with heap := h', toks := tk }) :
    wpAny (model prog w) A (reflectedDiffers (.ref C) (.ref D) nm) Q E s := by
  have L1 : Looks (model prog w) s.heap (numberSlotInPython (.ref C) nm) true := ksp_inPy X c.hs c.hr (.inl rfl)
  have L2 : Looks (model prog w) s.heap (numberSlotInPython (.ref D) nm) true := ksp_inPy X d.hs d.hr (.inl rfl)
  unfold reflectedDiffers
  refine wpAny_bind (L1.at ?_)
  simp only [Bool.not_true, Bool.false_eq_true, if_false]
  refine wpAny_bind (L2.at ?_)
  simp only [Bool.not_true, Bool.false_eq_true, if_false]
  refine wpAny_bind (wpAny_mkStr (wpAny_bind ?_) hz)
  exact cls_miss (s := { s with toks := s.toks + 1 }) hh X m fun h' tk k => wpAny_pure (h h' tk k)
theorem inst_keep {h h' : Heap} (I : InstAt h x ox C od) (k : ∀ b o, h.get? b = some o → h'.get? b = some o) : InstAt h' x ox C od := ⟨k _ _ I.at_, I.cls, I.no, by
  have z := I.dict
  revert z
  cases ox.dict <;> cases od <;> intro z <;> first | exact z | exact k _ _ z⟩
theorem binop_two {op : Operator} {Q : Value → Shared → Prop} (hh : A.handled = none) (X : K.In s.heap) (I : InstAt s.heap x ox C od) (J : InstAt s.heap y oy D oe) (hne : C ≠ D) (c : OpAt K C op.info.2 f) (d : OpAt K D op.info.2 g)
    (hsub : subIn K (.ref D) (.ref C) = some false ∨ (subIn K (.ref D) (.ref C) = some true ∧ Miss K D (dunderR op.info.2) ∧ (dunderR op.info.2).length ≤ sizeLine))
    (h : ∀ (h' : Heap) (tk : Nat), (∀ b o, s.heap.get? b = some o → h'.get? b = some o) → wpAny (model prog w) A (call (.ref f) [.ref x, .ref y]) (PySem.W.CmpBack Q) E { s with heap := h', toks := tk }) : wpAny (model prog w) A (binaryOp op (.ref x) (.ref y)) Q E s := by
  obtain ⟨cc, restc, hcc, hmc⟩ := ksp_first c.sf
  obtain ⟨cd, restd, hcd, hmd⟩ := ksp_first d.sf
  rcases hi : op.info with ⟨sym, nm'⟩
  rw [hi] at c d hsub
  dsimp only at c d hsub
  have L1 : Looks (model prog w) s.heap (typeOf (.ref x)) (.ref C) := I.type
  have L2 : Looks (model prog w) s.heap (typeOf (.ref y)) (.ref D) := J.type
  have L3 : Looks (model prog w) s.heap (fillsNumberSlot (.ref C) nm') true := fills_K X hcc hmc c.hs
  have L4 : Looks (model prog w) s.heap (fillsNumberSlot (.ref D) nm') true := fills_K X hcd hmd d.hs
  have hne' : (Value.ref C == Value.ref D) = false := Bool.eq_false_iff.mpr fun q => hne (Value.ref.inj (beq_iff_eq.mp q))
  simp only [binaryOp, hi]
  refine wpAny_holding (wpAny_bind ?_)
  unfold binaryOp1
  refine wpAny_bind (L1.at (wpAny_bind (L2.at (wpAny_bind (L3.at ?_)))))
  simp only [hne', Bool.false_eq_true, if_false]
  refine wpAny_bind (L4.at ?_)
  simp only [Bool.and_self, if_true]
  have fin : ∀ (h' : Heap) (tk : Nat), (∀ b o, s.heap.get? b = some o → h'.get? b = some o) → wpAny (model prog w) A (tryMethod (.ref x) (PySem.dunder nm') (.ref y)) (fun r s' => ∃ v, r = some v ∧ Q v s') E { s with heap := h', toks := tk } :=
    fun h' tk k => ksp_try (X.keeps k) (inst_keep I k) c.hs c.hf (h h' tk k)
  rcases hsub with hs | ⟨hs, hm, hz⟩
  · have L6 : Looks (model prog w) s.heap (numberSlotInPython (.ref C) nm') true := ksp_inPy X c.hs c.hr (.inl rfl)
    have L7 : Looks (model prog w) s.heap (numberSlotInPython (.ref D) nm') true := ksp_inPy X d.hs d.hr (.inl rfl)
    refine wpAny_bind ((looks_subIn X hs).at ?_)
    simp only [Bool.false_eq_true, if_false, Bool.not_false, Bool.and_self, if_true]
    refine wpAny_bind (L6.at ?_)
    simp only [if_true]
    refine wpAny_bind (L7.at ?_)
    simp only [Bool.not_true, Bool.false_eq_true, if_false]
    refine wpAny_bind (wpAny_mono (fin s.heap s.toks fun _ _ e => e) (fun r s' hr' => ?_) fun _ _ e => e)
    obtain ⟨v, rfl, hq⟩ := hr'
    exact wpAny_pure (wpAny_pure hq)
  · refine wpAny_bind ((looks_subIn X hs).at ?_)
    simp only [if_true]
    refine wpAny_bind (reflected_no hh X c d hm hz fun h' tk k => ?_)
    have X' : K.In h' := X.keeps k
    have L6 : Looks (model prog w) h' (numberSlotInPython (.ref C) nm') true := ksp_inPy X' c.hs c.hr (.inl rfl)
    have L7 : Looks (model prog w) h' (numberSlotInPython (.ref D) nm') true := ksp_inPy X' d.hs d.hr (.inl rfl)
    simp only [Bool.false_eq_true, if_false, Bool.not_false, Bool.and_self, if_true]
    refine wpAny_bind (L6.at ?_)
    simp only [if_true]
    refine wpAny_bind (L7.at ?_)
    simp only [Bool.not_true, Bool.false_eq_true, if_false]
    refine wpAny_bind (wpAny_mono (fin h' tk k) (fun r s' hr' => ?_) fun _ _ e => e)
    obtain ⟨v, rfl, hq⟩ := hr'
    exact wpAny_pure (wpAny_pure hq)
end
end RK
set_option Elab.async false
set_option linter.all false
set_option maxRecDepth 100000
set_option maxHeartbeats 4000000
namespace RK
open PySem PySem.Spec PyProof.Rows PySem.W
abbrev mwO (x : Addr) : Obj := { cls := .type "method-wrapper", data := .fields #[.builtin "type.__ror__", .ref x] }
theorem ror_typ : typeOf (.builtin "type.__ror__") = pure (.type "wrapper_descriptor") := by show builtinType _ = _; rw [builtinType_eq_fast]; kernel_rfl
theorem ror_nac : (kfb_private% "nameAndClass") (.builtin "type.__ror__") = pure (PySem.Str.ofString "__ror__", .type "type") := by first | kernel_rfl | rfl
section
variable {prog : Program} {w : World} {A : Around} {E : Value → Shared → Prop} {s : Shared} {K : Frag} {C D : Addr} {t : Tok}
theorem get_ror {P : Fin → Shared → Prop} (hI : Looks (model prog w) s.heap (isInstance (.ref C) (.type "type")) true) (hP : P (.done (.ret (.ref s.heap.objs.size))) { s with heap := s.heap.push (mwO C) }) :
    wpAny (model prog w) A (Builtin.«wrapper_descriptor.__get__» ⟨[.builtin "type.__ror__", .ref C, .type "type"], []⟩) P E s := by
  unfold Builtin.«wrapper_descriptor.__get__»
  refine wpAny_bind (wpAny_of_eq (a := (.builtin "type.__ror__", some (.ref C), some (.type "type"))) (by first | rfl | kernel_rfl) ?_)
  refine wpAny_bind ?_
  refine wpAny_bind (wpAny_of_eq (a := (PySem.Str.ofString "__ror__", .type "type")) ror_nac ?_)
  refine wpAny_bind (hI.here ?_)
  refine KFB.if_not rfl (wpAny_pure (wpAny_bind (wpAny_newObj_type (wpAny_pure hP))))
/-- the class bears type.__ror__ by its metaclass alone -/
structure Ror (K : Frag) (C : Addr) : Prop where
  ty : typeIn K (.ref C) = some (.type "type")
  op : nsIn K cStatics "thirdparty.any" = some none
  fc : findCls K (.ref C) (.type "type") "__ror__" = some (.get (.builtin "wrapper_descriptor.__get__") (.builtin "type.__ror__") (.ref C) (.type "type"))
theorem cls_ror {Q : Option Value → Shared → Prop} (X : K.In s.heap) (m : Ror K C) (h : Q (some (.ref s.heap.objs.size)) { s with heap := s.heap.push (mwO C) }) :
    wpAny (model prog w) A (getAttrBy? (.ref C) (.str "__ror__" t)) Q E s := by
  have L1 : Looks (model prog w) s.heap (typeOf (.ref C)) (.type "type") := looks_typeIn X m.ty
  have L2 : Looks (model prog w) s.heap (typeLookup (.type "type") "__getattribute__") (some (.builtin "type.__getattribute__")) := looks_findIn (K := []) (fun _ _ e => by cases e) type_tga
  have L3 : Looks (model prog w) s.heap (opaqueClassAbove (.ref C)) none := looks_opaque X m.op
  have L6 : Looks (model prog w) s.heap (isInstance (.ref C) (.type "type")) true := L1.andThen (Looks.of_pure (by rw [isSubtype_type]; kernel_rfl))
  unfold getAttrBy?
  refine wpAny_bind (wpAny_attempt ?_)
  unfold getAttrBy
  refine wpAny_holding (wpAny_bind (L1.at (wpAny_bind (L2.at ?_))))
  show wpAny _ _ (getAttrByItsOwn _ _ _ _ _ _) _ _ _
  unfold getAttrByItsOwn hookBefore
  refine wpAny_bind (wpAny_pure (wpAny_bind (wpAny_attempt (wpAny_holding ?_))))
  unfold callGetattribute
  rw [if_neg (by decide)]
  unfold boundAndCalled
  rw [KF.slot_tga.bind]
  refine wpAny_bind (wpAny_pure (wpAny_call (codeAny_call_builtin KF.slot_tga.plain KF.entry_tga ?_)))
  refine @check_slot (model prog w) _ _ s "type.__getattribute__" "type" "__getattribute__" (.ref C) [.str "__ror__" t] [] _ (by decide +kernel) (by decide +kernel) L6 (KF.args_tga (.ref C) (.str "__ror__" t)) ?_
  refine tga_run X L3 L1 m.fc ?_
  refine wpAny_bind (wpAny_holding (wpAny_call (codeAny_call_builtin kxs_slot_get.plain kxs_entry_get ?_)))
  refine @check_slot (model prog w) _ _ s "wrapper_descriptor.__get__" "wrapper_descriptor" "__get__" (.builtin "type.__ror__") [.ref C, .type "type"] [] _ (by decide +kernel) (by decide +kernel) (Looks.andThen (Looks.of_pure ror_typ) (Looks.of_pure (by rw [isSubtype_type]; kernel_rfl))) (kxs_args_get _ _ _) ?_
  refine get_ror L6 ?_
  show wpAny _ _ (ret (.ref s.heap.objs.size)) _ _ _
  refine wpAny_pure ?_
  show wpAny _ _ (handedOut (.ref s.heap.objs.size)) _ _ _
  rw [handedOut_of (v := .ref s.heap.objs.size) rfl]
  exact wpAny_pure (wpAny_pure h)
theorem slot_mwne : Slot "method-wrapper" "__ne__" "method-wrapper.__ne__" := .of (owner := "method-wrapper") (n := "__ne__") (by rw [typeLookup_type, builtinLookup_eq_fast]; kernel_rfl) (by decide +kernel) (by decide +kernel) (by decide +kernel) (by decide +kernel) (by rw [isSubtype_type]; kernel_rfl)
theorem entry_mwne : entryFor table "method-wrapper.__ne__" = some Builtin.«method_wrapper.__ne__» := entryFor_alias (id' := "method_wrapper.__ne__") (by kernel_rfl) (by decide +kernel) (by decide +kernel) (by kernel_rfl)
theorem args_mwne (a b : Value) : argsOk "method-wrapper.__ne__" ⟨[a, b], []⟩ := by unfold argsOk; kernel_rfl
/-- two of them differ -/
theorem ne_mw {a b : Addr} {Q : Value → Shared → Prop} (hu : A.units + 8 < cLine) (hCD : C ≠ D) (ha : s.heap.get? a = some (mwO C)) (hb : s.heap.get? b = some (mwO D)) (hC : ∃ o, s.heap.get? C = some o ∧ o.cls = .type "type") (hD : ∃ o, s.heap.get? D = some o ∧ o.cls = .type "type") (h : Q (.bool true) s) :
    wpAny (model prog w) A (richCompare .NotEq (.ref a) (.ref b)) Q E s := by
  have ta : s.TypeIs (.ref a) "method-wrapper" := ⟨_, ha, rfl⟩
  have tb : s.TypeIs (.ref b) "method-wrapper" := ⟨_, hb, rfl⟩
  obtain ⟨oC, gC, cC⟩ := hC
  obtain ⟨oD, gD, cD⟩ := hD
  unfold richCompare
  refine wpAny_holding (wpAny_bind (wpAny_cRoomFor (by omega) ?_))
  show wpAny _ _ (typeOf (.ref a) >>= _) _ _ _
  refine wpAny_bind (wpAny_typeOf ta (wpAny_bind (wpAny_typeOf tb ?_)))
  simp only [bne_self_eq_false, Bool.false_eq_true, if_false]
  refine wpAny_bind (wpAny_pure ?_)
  simp only [Bool.false_eq_true, if_false]
  have go : wpAny (model prog w) A (tryCompare (.ref a) "__ne__" (.ref b)) (fun r s' => r = some (.bool true) ∧ s' = s) E s := by
    unfold tryCompare
    refine wpAny_bind (wpAny_callSpecialIfBound?_slot (name := Str.ofString "__ne__") ta slot_mwne (wpAny_call_entry slot_mwne ta entry_mwne ?_ (args_mwne _ _)))
    show wpAny _ _ (slotArgs "__ne__" 1 ⟨[.ref a, .ref b], []⟩ >>= _) _ _ _
    refine wpAny_bind (wpAny_of_eq (a := ((Value.ref a : Value), [Value.ref b])) (by first | rfl | (simp only [slotArgs]; rfl)) ?_)
    refine wpAny_bind (wpAny_isInstance (T := "method-wrapper") (b := true) tb (by rw [isSubtype_type]; kernel_rfl) ?_)
    refine wpAny_bind (wpAny_bind (wpAny_field ha rfl rfl (wpAny_bind (wpAny_field ha rfl rfl (wpAny_pure ?_)))))
    refine wpAny_bind (wpAny_bind (wpAny_field hb rfl rfl (wpAny_bind (wpAny_field hb rfl rfl (wpAny_pure ?_)))))
    refine wpAny_bind ?_
    show wpAny _ _ (isSame (.ref C) (.ref D)) _ _ _
    refine wpAny_isSame_ref_other hCD gC gD (by rw [cC]; decide) (wpAny_pure ?_)
    exact ⟨_, rfl, wpAny_pure ⟨rfl, rfl⟩⟩
  refine wpAny_bind (wpAny_mono go (fun r s' z => ?_) fun _ _ e => e)
  obtain ⟨e1, e2⟩ := z
  subst e1 e2
  exact wpAny_pure h
/-- who goes first: the right one is asked, in vain -/
theorem reflected_yes {f g : Addr} {Q : Bool → Shared → Prop} (hu : A.units + 8 < cLine) (hCD : C ≠ D) (X : K.In s.heap) (c : OpAt K C "or" f) (d : OpAt K D "or" g) (rc : Ror K C) (rd : Ror K D) (hC : ∃ o, s.heap.get? C = some o ∧ o.cls = .type "type") (hD : ∃ o, s.heap.get? D = some o ∧ o.cls = .type "type")
    (h : ∀ h' tk, (∀ b o, s.heap.get? b = some o → h'.get? b = some o) → Q true { s with heap := h', toks := tk }) : wpAny (model prog w) A (reflectedDiffers (.ref C) (.ref D) "or") Q E s := by
  have L1 : Looks (model prog w) s.heap (numberSlotInPython (.ref C) "or") true := ksp_inPy X c.hs c.hr (.inl rfl)
  have L2 : Looks (model prog w) s.heap (numberSlotInPython (.ref D) "or") true := ksp_inPy X d.hs d.hr (.inl rfl)
  have k1 : ∀ {o1 : Obj} b o, s.heap.get? b = some o → (s.heap.push o1).get? b = some o := fun b o e => Heap.get?_push_of_some _ e
  have k2 : ∀ {o1 o2 : Obj} b o, s.heap.get? b = some o → ((s.heap.push o1).push o2).get? b = some o := fun b o e => Heap.get?_push_of_some _ (k1 b o e)
  unfold reflectedDiffers
  refine wpAny_bind (L1.at ?_)
  simp only [Bool.not_true, Bool.false_eq_true, if_false]
  refine wpAny_bind (L2.at ?_)
  simp only [Bool.not_true, Bool.false_eq_true, if_false]
  refine wpAny_bind (wpAny_mkStr (wpAny_bind ?_) (by size_fits))
  refine cls_ror (s := { s with toks := s.toks + 1 }) X rd (wpAny_holding (wpAny_bind ?_))
  refine cls_ror (s := { s with toks := s.toks + 1, heap := s.heap.push (mwO D) }) (X.keeps fun b o e => k1 b o e) rc (wpAny_holding (wpAny_bind ?_))
  have hb : ((s.heap.push (mwO D)).push (mwO C)).get? s.heap.objs.size = some (mwO D) := Heap.get?_push_of_some _ (Heap.get?_push_size _ rfl)
  have ha : ((s.heap.push (mwO D)).push (mwO C)).get? (s.heap.push (mwO D)).objs.size = some (mwO C) := Heap.get?_push_size _ rfl
  have hne : (s.heap.push (mwO D)).objs.size ≠ s.heap.objs.size := by rw [Heap.size_push]; omega
  refine wpAny_isSame_ref_other hne ha hb (show (Value.type "method-wrapper") ≠ Value.type "tuple" by decide) ?_
  simp only [Bool.false_eq_true, if_false]
  refine wpAny_bind (ne_mw (C := C) (D := D) hu hCD ha hb (hC.imp fun o z => ⟨k2 _ _ z.1, z.2⟩) (hD.imp fun o z => ⟨k2 _ _ z.1, z.2⟩) ?_)
  exact wpAny_truthy_bool (h _ _ (fun b o e => k2 b o e))
theorem binop_or {x y f g : Addr} {ox oy : Obj} {od oe : Option Obj} {Q : Value → Shared → Prop} (hu : A.units + 8 < cLine) (X : K.In s.heap) (I : InstAt s.heap x ox C od) (J : InstAt s.heap y oy D oe) (hne : C ≠ D) (c : OpAt K C "or" f) (d : OpAt K D "or" g)
    (hs : subIn K (.ref D) (.ref C) = some true) (rc : Ror K C) (rd : Ror K D) (hC : ∃ o, s.heap.get? C = some o ∧ o.cls = .type "type") (hD : ∃ o, s.heap.get? D = some o ∧ o.cls = .type "type")
    (h : ∀ (h' : Heap) (tk : Nat), (∀ b o, s.heap.get? b = some o → h'.get? b = some o) → wpAny (model prog w) A (call (.ref f) [.ref x, .ref y]) (PySem.W.CmpBack Q) E { s with heap := h', toks := tk }) : wpAny (model prog w) A (binaryOp .BitOr (.ref x) (.ref y)) Q E s := by
  obtain ⟨cc, restc, hcc, hmc⟩ := ksp_first c.sf
  obtain ⟨cd, restd, hcd, hmd⟩ := ksp_first d.sf
  have L1 : Looks (model prog w) s.heap (typeOf (.ref x)) (.ref C) := I.type
  have L2 : Looks (model prog w) s.heap (typeOf (.ref y)) (.ref D) := J.type
  have L3 : Looks (model prog w) s.heap (fillsNumberSlot (.ref C) "or") true := fills_K X hcc hmc c.hs
  have L4 : Looks (model prog w) s.heap (fillsNumberSlot (.ref D) "or") true := fills_K X hcd hmd d.hs
  have hne' : (Value.ref C == Value.ref D) = false := Bool.eq_false_iff.mpr fun q => hne (Value.ref.inj (beq_iff_eq.mp q))
  have fin : ∀ (h' : Heap) (tk : Nat), (∀ b o, s.heap.get? b = some o → h'.get? b = some o) → wpAny (model prog w) A (tryMethod (.ref x) (PySem.dunder "or") (.ref y)) (fun r s' => ∃ v, r = some v ∧ Q v s') E { s with heap := h', toks := tk } :=
    fun h' tk k => ksp_try (X.keeps k) (inst_keep I k) c.hs c.hf (h h' tk k)
  simp only [binaryOp, Operator.info]
  refine wpAny_holding (wpAny_bind ?_)
  unfold binaryOp1
  refine wpAny_bind (L1.at (wpAny_bind (L2.at (wpAny_bind (L3.at ?_)))))
  simp only [hne', Bool.false_eq_true, if_false]
  refine wpAny_bind (L4.at ?_)
  simp only [Bool.and_self, if_true]
  refine wpAny_bind ((looks_subIn X hs).at ?_)
  simp only [if_true]
  refine wpAny_bind (reflected_yes hu hne X c d rc rd hC hD fun h' tk k => ?_)
  have X' : K.In h' := X.keeps k
  have J' := inst_keep J k
  simp only [if_true]
  refine wpAny_bind (wpAny_rule ?_)
  have no : wpAny (model prog w) A (tryMethod (.ref y) (dunderR "or") (.ref x)) (fun r s' => r = none ∧ s' = { s with heap := h', toks := tk }) E { s with heap := h', toks := tk } := by
    unfold tryMethod
    refine wpAny_bind (wpAny_bind (wpAny_bind (J'.type.here ((looks_findIn X' d.hr).here (wpAny_pure ?_)))))
    exact wpAny_pure ⟨rfl, rfl⟩
  refine wpAny_bind (wpAny_mono no (fun r s' z => ?_) fun _ _ e => e)
  obtain ⟨e1, e2⟩ := z
  subst e1 e2
  simp only [Bool.not_true, Bool.and_false, Bool.false_eq_true, if_false]
  refine wpAny_bind (wpAny_pure ?_)
  simp only [Bool.false_eq_true, if_false]
  refine wpAny_bind (wpAny_mono (fin h' tk k) (fun r s' hr' => ?_) fun _ _ e => e)
  obtain ⟨v, rfl, hq⟩ := hr'
  exact wpAny_pure (wpAny_pure hq)
theorem binop_same {x y f : Addr} {ox oy : Obj} {od oe : Option Obj} {op : Operator} {Q : Value → Shared → Prop} (X : K.In s.heap) (I : InstAt s.heap x ox C od) (J : InstAt s.heap y oy C oe) (c : OpAt K C op.info.2 f)
    (h : wpAny (model prog w) A (call (.ref f) [.ref x, .ref y]) (PySem.W.CmpBack Q) E s) : wpAny (model prog w) A (binaryOp op (.ref x) (.ref y)) Q E s := by
  obtain ⟨cc, restc, hcc, hmc⟩ := ksp_first c.sf
  rcases hi : op.info with ⟨sym, nm'⟩
  rw [hi] at c
  dsimp only at c
  have L1 : Looks (model prog w) s.heap (typeOf (.ref x)) (.ref C) := I.type
  have L2 : Looks (model prog w) s.heap (typeOf (.ref y)) (.ref C) := J.type
  have L3 : Looks (model prog w) s.heap (fillsNumberSlot (.ref C) nm') true := fills_K X hcc hmc c.hs
  simp only [binaryOp, hi]
  refine wpAny_holding (wpAny_bind ?_)
  unfold binaryOp1
  refine wpAny_bind (L1.at (wpAny_bind (L2.at (wpAny_bind (L3.at ?_)))))
  simp only [beq_self_eq_true, if_true]
  refine wpAny_bind (wpAny_pure ?_)
  simp only [Bool.and_false, Bool.false_eq_true, if_false, Bool.false_and]
  refine wpAny_bind (wpAny_pure ?_)
  simp only [Bool.false_eq_true, if_false, if_true]
  refine wpAny_bind (wpAny_mono (ksp_try X I c.hs c.hf h) (fun r s' hr' => ?_) fun _ _ e => e)
  obtain ⟨v, rfl, hq⟩ := hr'
  exact wpAny_pure (wpAny_pure hq)
end
end RK
set_option Elab.async false
set_option linter.all false
set_option maxRecDepth 100000
set_option maxHeartbeats 4000000
namespace Rf
open PySem L2 TL
/-- two classes of the program have the operator nm, which is f -/
structure OpK (K : PySem.W.Frag) (C D : Addr) (nm : String) (f : Addr) : Prop where
  c : RK.OpAt K C nm f
  d : RK.OpAt K D nm f
  tc : ∃ o, K.lookup C = some o ∧ o.cls = .type "type"
  td : ∃ o, K.lookup D = some o ∧ o.cls = .type "type"
  how : C = D ∨ (C ≠ D ∧ (PySem.W.subIn K (.ref D) (.ref C) = some false ∨ (PySem.W.subIn K (.ref D) (.ref C) = some true ∧ RK.Miss K D (dunderR nm) ∧ (dunderR nm).length ≤ sizeLine) ∨ (PySem.W.subIn K (.ref D) (.ref C) = some true ∧ nm = "or" ∧ RK.Ror K C ∧ RK.Ror K D)))
section
variable {X : Cx} {W : WX} {cs : List Str} {F : Fn} {ma mb : EM} {a b : Expr} {pos : Pos} {op : Operator}
def rOpI (X : Cx) (op : Operator) (F : Fn) : R2 := fun x y H Q => ∃ (a b C D dx dy : Addr) (fs gs : List (Str × V)) (f : Addr) (fd : FuncData) (ps : List Str) (j : Nat), x = .ref a ∧ y = .ref b ∧ H a = some (.ins C dx fs) ∧ H b = some (.ins D dy gs) ∧ OpK X.K C D op.info.2 f ∧
  FnOkG X.prog X.w X.K X.mg X.base (L2N.CX X.prog X.w) j f fd ps (spC (k0 X.K X.mg X.w) F) ∧ RoomG j X.A ∧ Binds X.K fd ps [] ∧ spC (k0 X.K X.mg X.w) F [x, y] H (fun v H' => ∃ r, v = .ref r ∧ Q v H') (fun _ _ _ => False)
theorem op_own (ho : op = .BitAnd ∨ op = .BitOr ∨ op = .Sub) : OpR X (binaryOp op) (rOpI X op F) := by
  rintro pins s σ H _ _ v u Q I rx ry ⟨a, b, C, D, dx, dy, fs, gs, f, fd, ps, j, rfl, rfl, ha, hb, hK, F', hr, hbd, q⟩
  obtain rfl : v = Value.ref a := rx
  obtain rfl : u = Value.ref b := ry
  obtain ⟨mA, O, _, _, _, _⟩ := ins_get I.hok ha
  obtain ⟨mB, O', _, _, _, _⟩ := ins_get I.hok hb
  obtain ⟨od, J, _⟩ := O.look
  obtain ⟨oe, J', _⟩ := O'.look
  have hu : X.A.units + 8 < cLine := by have := hr.un; omega
  have tc : ∃ o, s.heap.get? C = some o ∧ o.cls = .type "type" := hK.tc.imp fun o z => ⟨I.kIn _ _ z.1, z.2⟩
  have td : ∃ o, s.heap.get? D = some o ∧ o.cls = .type "type" := hK.td.imp fun o z => ⟨I.kIn _ _ z.1, z.2⟩
  have run : ∀ (h' : Heap) (tk : Nat), (∀ b o, s.heap.get? b = some o → h'.get? b = some o) → wpAny (model X.prog X.w) X.A (call (.ref f) [.ref a, .ref b]) (PySem.W.CmpBack (EP X pins σ Q)) X.xe { s with heap := h', toks := tk } := fun h' tk k => by
    refine wpAny_mono (run_fnG0 (us := [.ref a, .ref b]) (vs := [.ref a, .ref b]) F' hr hbd (E0 := fun _ _ _ => False) (fun _ _ _ _ _ _ z => (no_cxF z).elim) (I.kept (t' := tk) k) (.cons rfl (.cons rfl .nil)) q) (fun r s' z => ?_) fun _ _ e => e
    obtain ⟨v, H', I', rv, ⟨r0, rfl, hq⟩⟩ := z
    obtain rfl : r = Value.ref r0 := rv
    exact (show EP X pins σ Q (.ref r0) s' from ⟨.ref r0, H', I', rfl, hq⟩)
  rcases hK.how with rfl | ⟨hne, hs⟩
  · exact RK.binop_same I.kIn J J' hK.c (run s.heap s.toks fun _ _ e => e)
  · rcases hs with hs | ⟨hs, hm, hz⟩ | ⟨hs, hn, rc, rd⟩
    · exact RK.binop_two hr.hd I.kIn J J' hne hK.c hK.d (.inl hs) run
    · exact RK.binop_two hr.hd I.kIn J J' hne hK.c hK.d (.inr ⟨hs, hm, hz⟩) run
    · have eo : op = .BitOr := by
        rcases ho with rfl | rfl | rfl
        · exact absurd hn (by decide)
        · rfl
        · exact absurd hn (by decide)
      subst eo
      exact RK.binop_or hu I.kIn J J' hne hK.c hK.d hs rc rd tc td run
/-- a op b: both are instances of classes of cs -/
def eOpI (cs : List Str) (F : Fn) (ma mb : EM) : EM := fun L S => (ma L S).bind fun x S1 => (mb L S1).bind fun y S2 => match insOf S2 x, insOf S2 y with
  | some (c, _, _), some (d, _, _) => if c ∈ cs ∧ d ∈ cs then (F [x, y] S2).nox.bind fun r S3 => match r with
    | .obj n => .ok (.obj n) S3
    | _ => .no else .no
  | _, _ => .no
/-- what is known of the classes' operator -/
def OpT (X : Cx) (cs : List Str) (nm : String) (F : Fn) : Prop := ∃ (f : Addr) (fd : FuncData) (ps : List Str) (j : Nat), FnOkG X.prog X.w X.K X.mg X.base (L2N.CX X.prog X.w) j f fd ps (spC (k0 X.K X.mg X.w) F) ∧ RoomG j X.A ∧ Binds X.K fd ps [] ∧
  ∀ c ∈ cs, ∀ d ∈ cs, ∃ C D, X.mg c = some (.ref C) ∧ X.mg d = some (.ref D) ∧ OpK X.K C D nm f
theorem se_opI (ho : op = .BitAnd ∨ op = .BitOr ∨ op = .Sub) (T : OpT X cs op.info.2 F) (ha : SE X W a ma) (hb : SE X W b mb) : SE X W (.BinOp a op b pos) (eOpI cs F ma mb) := by
  refine PE.imp (pe_op (op_own (F := F) ho) ha hb) fun σ H Q ⟨L, S, g, l, w, p⟩ => ?_
  obtain ⟨f, fd, ps, j, F', hr, hbd, hT⟩ := T
  refine ⟨L, S, g, l, w, Post.bind p fun x S1 xv H1 g1 e1 w1 r1 p1 => ?_⟩
  refine ⟨L, S1, g1, l.ext e1, w1, Post.bind p1 fun y S2 yv H2 g2 e2 w2 r2 p2 => ?_⟩
  have r1' := r1.mono e2.toPExt _ _
  split at p2
  · rename_i c cn cd d dn dd hc hd
    split at p2
    · rename_i hcd
      obtain ⟨C, D, hC, hD, hK⟩ := hT c hcd.1 d hcd.2
      obtain ⟨a, C', dx, vs, rfl, hC', ha', rl⟩ := insOf_rep w2 r1' hc
      obtain ⟨b, D', dy, us, rfl, hD', hb', rl'⟩ := insOf_rep w2 r2 hd
      have z1 : X.mg c = some (.ref C') := hC'
      rw [hC] at z1
      cases z1
      have z2 : X.mg d = some (.ref D') := hD'
      rw [hD] at z2
      cases z2
      refine ⟨a, b, C, D, dx, dy, _, _, f, fd, ps, j, rfl, rfl, ha', hb', hK, F', hr, hbd, spC.kc (k := kx X) rfl rfl rfl ⟨[x, y], S2, g2, .cons r1' (.cons r2 .nil), w2, ?_⟩⟩
      cases z : F [x, y] S2 with
      | no => rw [z] at p2; exact p2.elim
      | ex x S3 => rw [z] at p2; exact p2.elim
      | ok r S3 =>
        rw [z] at p2
        cases r with
        | obj n =>
          intro v H' g' e' w' r'
          obtain ⟨hn, rfl⟩ := id r'
          exact ⟨_, rfl, p2 _ H' g' e' w' r'⟩
        | _ => exact p2.elim
    · exact p2.elim
  · exact p2.elim
theorem r_opI {L : Ls} {S : Sto} {P : D → Sto → Prop} {xp : ExP} (h : wp (ma L S) fun x S1 => wp (mb L S1) fun y S2 => ∃ c cn cd d dn dd, insOf S2 x = some (c, cn, cd) ∧ insOf S2 y = some (d, dn, dd) ∧ (c ∈ cs ∧ d ∈ cs) ∧ @wp noXP _ (F [x, y] S2) fun r S3 => ∃ n, r = .obj n ∧ P (.obj n) S3) : wp (eOpI cs F ma mb L S) P := by
  unfold eOpI
  rw [wp_bind]
  refine h.mono fun x S1 k => ?_
  rw [wp_bind]
  refine k.mono fun y S2 ⟨c, cn, cd, d, dn, dd, e1, e2, hcd, k⟩ => ?_
  obtain ⟨r, S3, e3, n, rfl, k⟩ := k.ex
  simp only [e1, e2, e3, hcd, and_self, if_true]
  exact ⟨k⟩
instance {L : Ls} {S : Sto} {P : D → Sto → Prop} {xp : ExP} : Wp (eOpI cs F ma mb L S) P (wp (ma L S) fun x S1 => wp (mb L S1) fun y S2 => ∃ c cn cd d dn dd, insOf S2 x = some (c, cn, cd) ∧ insOf S2 y = some (d, dn, dd) ∧ (c ∈ cs ∧ d ∈ cs) ∧ @wp noXP _ (F [x, y] S2) fun r S3 => ∃ n, r = .obj n ∧ P (.obj n) S3) := ⟨r_opI⟩
def rInv (X : Cx) (F : Fn) : V → Hp → VK → Prop := fun x H Q => ∃ (a C dx : Addr) (fs : List (Str × V)) (f : Addr) (fd : FuncData) (ps : List Str) (j : Nat), x = .ref a ∧ H a = some (.ins C dx fs) ∧ Meth X.K C "__invert__" f ∧
  FnOkG X.prog X.w X.K X.mg X.base (L2N.CX X.prog X.w) j f fd ps (spC (k0 X.K X.mg X.w) F) ∧ RoomG j X.A ∧ Binds X.K fd ps [] ∧ spC (k0 X.K X.mg X.w) F [x] H Q (fun _ _ _ => False)
theorem un_own : UnR X (unaryOp .Invert) (rInv X F) := by
  rintro pins s σ H _ v Q I rx ⟨a, C, dx, fs, f, fd, ps, j, rfl, ha, hm, F', hr, hbd, q⟩
  obtain rfl : v = Value.ref a := rx
  obtain ⟨mA, O, _, _, _, _⟩ := ins_get I.hok ha
  obtain ⟨od, J, _⟩ := O.look
  unfold unaryOp
  refine wpAny_holding (wpAny_bind (PySem.W.special_fn I.kIn J hm.at_ (beq_iff_eq.mp hm.fn) (wpAny_mono (run_fnG0 (us := [.ref a]) (vs := [.ref a]) F' hr hbd (E0 := fun _ _ _ => False) (fun _ _ _ _ _ _ z => (no_cxF z).elim) I (.cons rfl .nil) q) (fun r s' z => wpAny_pure z) fun _ _ e => e)))
def eInv (cs : List Str) (F : Fn) (m : EM) : EM := fun L S => (m L S).bind fun x S1 => match insOf S1 x with
  | some (c, _, _) => if c ∈ cs then (F [x] S1).nox else .no
  | none => .no
def UnT (X : Cx) (cs : List Str) (F : Fn) : Prop := ∃ (f : Addr) (fd : FuncData) (ps : List Str) (j : Nat), FnOkG X.prog X.w X.K X.mg X.base (L2N.CX X.prog X.w) j f fd ps (spC (k0 X.K X.mg X.w) F) ∧ RoomG j X.A ∧ Binds X.K fd ps [] ∧
  ∀ c ∈ cs, ∃ C, X.mg c = some (.ref C) ∧ Meth X.K C "__invert__" f
theorem se_inv (T : UnT X cs F) (ha : SE X W a ma) : SE X W (.UnaryOp .Invert a pos) (eInv cs F ma) := by
  obtain ⟨f, fd, ps, j, F', hr, hbd, hT⟩ := T
  refine PE.imp (pe_un (un_own (F := F)) ha) fun σ H Q ⟨L, S, g, l, w, p⟩ => ⟨L, S, g, l, w, Post.bind p fun x S1 xv H1 g1 e1 w1 r1 p1 => ?_⟩
  split at p1
  · rename_i c cn cd hc
    split at p1
    · rename_i hcs
      obtain ⟨C, hC, hm⟩ := hT c hcs
      obtain ⟨a, C', dx, vs, rfl, hC', ha', rl⟩ := insOf_rep w1 r1 hc
      have z1 : X.mg c = some (.ref C') := hC'
      rw [hC] at z1
      cases z1
      refine ⟨a, C, dx, _, f, fd, ps, j, rfl, ha', hm, F', hr, hbd, spC.kc (k := kx X) rfl rfl rfl ⟨[x], S1, g1, .cons r1 .nil, w1, ?_⟩⟩
      cases z : F [x] S1 with
      | no => rw [z] at p1; exact p1.elim
      | ex x S3 => rw [z] at p1; exact p1.elim
      | ok r S3 => rw [z] at p1; exact p1
    · exact p1.elim
  · exact p1.elim
theorem r_inv {L : Ls} {S : Sto} {P : D → Sto → Prop} {xp : ExP} (h : wp (ma L S) fun x S1 => ∃ c cn cd, insOf S1 x = some (c, cn, cd) ∧ c ∈ cs ∧ @wp noXP _ (F [x] S1) P) : wp (eInv cs F ma L S) P := by
  unfold eInv
  rw [wp_bind]
  refine h.mono fun x S1 ⟨c, cn, cd, e1, hcs, k⟩ => ?_
  obtain ⟨r, S3, e3, k⟩ := k.ex
  simp only [e1, e3, hcs, if_true]
  exact ⟨k⟩
instance {L : Ls} {S : Sto} {P : D → Sto → Prop} {xp : ExP} : Wp (eInv cs F ma L S) P (wp (ma L S) fun x S1 => ∃ c cn cd, insOf S1 x = some (c, cn, cd) ∧ c ∈ cs ∧ @wp noXP _ (F [x] S1) P) := ⟨r_inv⟩
end
section
variable {K : PySem.W.Frag} {C D f : Addr} {nm : String}
def opcB (K : PySem.W.Frag) (C : Addr) (nm : String) (f : Addr) : Bool := PySem.W.selfFirst K C && (okO (PySem.W.findIn K (.ref C) (PySem.dunder nm)) (some (some (.ref f))) && (PySem.W.isFn K (.ref f) && (okO (PySem.W.findIn K (.ref C) (dunderR nm)) (some none) &&
  (match K.lookup C with | some o => decide (o.cls = .type "type") | none => false))))
theorem opcB_ok (h : opcB K C nm f = true) : RK.OpAt K C nm f ∧ ∃ o, K.lookup C = some o ∧ o.cls = .type "type" := by
  obtain ⟨h1, h⟩ := b2 h
  obtain ⟨h2, h⟩ := b2 h
  obtain ⟨h3, h⟩ := b2 h
  obtain ⟨h4, h5⟩ := b2 h
  refine ⟨⟨h1, okO_ok h2, h3, okO_ok h4⟩, ?_⟩
  split at h5
  · rename_i o e; exact ⟨o, e, of_decide_eq_true h5⟩
  · cases h5
def missB (K : PySem.W.Frag) (D : Addr) (nm : String) : Bool := (nm == "and" || nm == "sub") && (decide (PySem.W.typeIn K (.ref D) = some (.type "type")) && (okO (PySem.W.nsIn K cStatics "thirdparty.any") (some none) && (okO (PySem.W.findIn K (.ref D) (dunderR nm)) (some none) &&
  (match PySem.W.clsIn K D with | some cd => decide (cd.name.cps.foldl (fun k c => k + (Str.utf8Of c).length) 0 ≤ 100) && decide ((Str.ofString s!"type object '{cd.name.toString}' has no attribute '" ++ dunderR nm ++ "'").length ≤ sizeLine) | none => false))))
theorem missB_ok (h : missB K D nm = true) : RK.Miss K D (dunderR nm) ∧ (dunderR nm).length ≤ sizeLine := by
  obtain ⟨h1, h⟩ := b2 h
  obtain ⟨h2, h⟩ := b2 h
  obtain ⟨h3, h⟩ := b2 h
  obtain ⟨h4, h5⟩ := b2 h
  have hn : nm = "and" ∨ nm = "sub" := by simpa using h1
  have z : typeLookup (.type "type") (dunderR nm) = pure none ∧ (dunderR nm).length ≤ sizeLine := by
    rcases hn with rfl | rfl
    · exact ⟨by rw [typeLookup_type, builtinLookup_eq_fast]; kernel_rfl, by decide +kernel⟩
    · exact ⟨by rw [typeLookup_type, builtinLookup_eq_fast]; kernel_rfl, by decide +kernel⟩
  split at h5
  · rename_i cd e
    obtain ⟨h6, h7⟩ := b2 h5
    exact ⟨⟨of_decide_eq_true h2, okO_ok h3, z.1, okO_ok h4, cd, e, of_decide_eq_true h6, of_decide_eq_true h7⟩, z.2⟩
  · cases h5
def rorB (K : PySem.W.Frag) (C : Addr) : Bool := decide (PySem.W.typeIn K (.ref C) = some (.type "type")) && (okO (PySem.W.nsIn K cStatics "thirdparty.any") (some none) &&
  (match PySem.W.findCls K (.ref C) (.type "type") "__ror__" with | some (.get g a o t) => decide (g = .builtin "wrapper_descriptor.__get__") && (decide (a = .builtin "type.__ror__") && (decide (o = .ref C) && decide (t = .type "type"))) | _ => false))
theorem rorB_ok (h : rorB K C = true) : RK.Ror K C := by
  obtain ⟨h1, h⟩ := b2 h
  obtain ⟨h2, h⟩ := b2 h
  split at h
  · rename_i g a o t e
    obtain ⟨h3, h⟩ := b2 h
    obtain ⟨h4, h⟩ := b2 h
    obtain ⟨h5, h6⟩ := b2 h
    rw [of_decide_eq_true h3, of_decide_eq_true h4, of_decide_eq_true h5, of_decide_eq_true h6] at e
    exact ⟨of_decide_eq_true h1, okO_ok h2, e⟩
  · cases h
def opkB (K : PySem.W.Frag) (C D : Addr) (nm : String) (f : Addr) : Bool := opcB K C nm f && (opcB K D nm f && (decide (C = D) || (decide (PySem.W.subIn K (.ref D) (.ref C) = some false) || (decide (PySem.W.subIn K (.ref D) (.ref C) = some true) && (missB K D nm || (nm == "or" && (rorB K C && rorB K D)))))))
theorem opkB_ok (h : opkB K C D nm f = true) : OpK K C D nm f := by
  obtain ⟨h1, h⟩ := b2 h
  obtain ⟨h2, h3⟩ := b2 h
  obtain ⟨c1, c2⟩ := opcB_ok h1
  obtain ⟨d1, d2⟩ := opcB_ok h2
  refine ⟨c1, d1, c2, d2, ?_⟩
  by_cases hCD : C = D
  · exact .inl hCD
  · refine .inr ⟨hCD, ?_⟩
    rw [decide_eq_false hCD, Bool.false_or, Bool.or_eq_true] at h3
    rcases h3 with h3 | h3
    · exact .inl (of_decide_eq_true h3)
    · obtain ⟨h4, h5⟩ := b2 h3
      rw [Bool.or_eq_true] at h5
      rcases h5 with h5 | h5
      · exact .inr (.inl ⟨of_decide_eq_true h4, missB_ok h5⟩)
      · obtain ⟨h6, h7⟩ := b2 h5
        obtain ⟨h7, h8⟩ := b2 h7
        exact .inr (.inr ⟨of_decide_eq_true h4, by simpa using h6, rorB_ok h7, rorB_ok h8⟩)
end
section
variable {K : PySem.W.Frag} {mg : Str → Option Value} {cs : List Str} {nm : String} {f : Addr} {h : Heap}
def OpF (K : PySem.W.Frag) (mg : Str → Option Value) (cs : List Str) (nm : String) (f : Addr) : Prop := ∀ c ∈ cs, ∀ d ∈ cs, ∃ C D, mg c = some (.ref C) ∧ mg d = some (.ref D) ∧ OpK K C D nm f
def glB (K : PySem.W.Frag) (c : Str) : Bool := okO (PySem.W.nsIn K mainGlobals c) (some (some (.ref (He.ga K c))))
def opsB (K : PySem.W.Frag) (cs : List Str) (nm : String) (f : Addr) : Bool := cs.all fun c => glB K c && cs.all fun d => opkB K (He.ga K c) (He.ga K d) nm f
theorem opsB_ok (X : K.In h) (G : h.Ns mainGlobals mg) (q : opsB K cs nm f = true) : OpF K mg cs nm f := fun c hc d hd => by
  obtain ⟨h1, h2⟩ := b2 (List.all_eq_true.mp q c hc)
  obtain ⟨h3, _⟩ := b2 (List.all_eq_true.mp q d hd)
  exact ⟨_, _, PySem.W.mg_of X G (okO_ok h1), PySem.W.mg_of X G (okO_ok h3), opkB_ok (List.all_eq_true.mp h2 d hd)⟩
def UnF (K : PySem.W.Frag) (mg : Str → Option Value) (cs : List Str) (f : Addr) : Prop := ∀ c ∈ cs, ∃ C, mg c = some (.ref C) ∧ Meth K C "__invert__" f
def unsB (K : PySem.W.Frag) (cs : List Str) (f : Addr) : Bool := PySem.W.isFn K (.ref f) && (PySem.W.keepIn K (.ref f) && cs.all fun c => glB K c && okO (PySem.W.findIn K (.ref (He.ga K c)) "__invert__") (some (some (.ref f))))
theorem unsB_ok (X : K.In h) (G : h.Ns mainGlobals mg) (q : unsB K cs f = true) : UnF K mg cs f := fun c hc => by
  obtain ⟨h1, q⟩ := b2 q
  obtain ⟨h2, q⟩ := b2 q
  obtain ⟨h3, h4⟩ := b2 (List.all_eq_true.mp q c hc)
  exact ⟨_, PySem.W.mg_of X G (okO_ok h3), okO_ok h4, h1, h2⟩
theorem MthIn.op {P : Program} {w : World} {base : Heap} {D m : Str} {i j : Nat} {F : Fn} {X : Cx} (h : MthIn P w K mg base D m j F) (o : OpF K mg cs nm (He.ma K (He.ga K D) m)) (hr : RoomG i X.A) (hl : j ≤ i)
    (h1 : X.prog = P) (h2 : X.w = w) (h3 : X.K = K) (h4 : X.mg = mg) (h5 : X.base = base) : OpT X cs nm F := by
  subst h1 h2 h3 h4 h5
  obtain ⟨fd, ps, F, hb⟩ := h.ex
  exact ⟨_, fd, ps, j, F, hr.mono hl, hb, o⟩
theorem MthIn.un {P : Program} {w : World} {base : Heap} {D m : Str} {i j : Nat} {F : Fn} {X : Cx} (h : MthIn P w K mg base D m j F) (o : UnF K mg cs (He.ma K (He.ga K D) m)) (hr : RoomG i X.A) (hl : j ≤ i)
    (h1 : X.prog = P) (h2 : X.w = w) (h3 : X.K = K) (h4 : X.mg = mg) (h5 : X.base = base) : UnT X cs F := by
  subst h1 h2 h3 h4 h5
  obtain ⟨fd, ps, F, hb⟩ := h.ex
  exact ⟨_, fd, ps, j, F, hr.mono hl, hb, o⟩
end
end Rf
set_option Elab.async false
set_option linter.all false
set_option maxRecDepth 100000
set_option maxHeartbeats 1000000
namespace Rf
open PySem L2 TL
section
variable {X : Cx}
def bReprB : List D → Option D
  | [.bl b] => some (.str (if b = true then [84, 114, 117, 101] else [70, 97, 108, 115, 101]))
  | ds => bRepr ds
theorem call_repr_bl : CallR X (.builtin "repr") (fun xs H Q => ∃ b, xs = [.bl b] ∧ Q (.str (if b then "True" else "False")) H) := by
  intro pins s σ H xs us Q I r h
  obtain ⟨b, rfl, q⟩ := h
  obtain ⟨u, rfl, rfl⟩ := vals1 r
  exact PySem.P.repr_of_bool ⟨.str _, H, I.tok _, ⟨_, rfl⟩, q⟩
theorem bReprB_ok (hu : X.A.units + 60 < cLine) (hg : X.A.guards = some []) : CallC X (.builtin "repr") bReprB := by
  intro ds res h
  unfold bReprB at h
  split at h
  · rename_i b
    cases h
    rintro pins s σ H xs us Q I r ⟨g, S, w, c, q⟩
    obtain ⟨v, rfl, cv⟩ := c1 c
    cases cv
    exact call_repr_bl pins s σ H _ us Q I r ⟨_, rfl, scalar_fin q w (by cases b <;> exact congrArg V.str (by decide))⟩
  · exact bRepr_ok hu hg _ _ h
end
section
variable {X : Cx} {W : WX} {mf : Ls → Sto → R (List D)} {i : Nat} {st : Stmt}
theorem nw_read {k : Kx} {σ : L2.St} {H : Hp} {Q : VK} (h : tE k W (eNw mf) σ H Q) : tF k W mf σ H Q := by
  obtain ⟨L, S, g, l, w, p⟩ := h
  refine ⟨L, S, g, l, w, ?_⟩
  unfold eNw at p
  cases q : mf L S with
  | ok ds S1 =>
    rw [q] at p
    refine fun v H1 g1 e1 w1 ⟨a, h1, h2, h3⟩ => p v H1 (g1.push a) (e1.pushNew h2) (w1.pushOwn h3) ?_
    rw [h1]
    refine ⟨by rw [w1.len]; exact Nat.lt_succ_self _, ?_⟩
    show V.ref a = V.ref (if S1.length = g1.n then a else _)
    rw [if_pos w1.len]
  | ex x S1 => rw [q] at p; exact p
  | no => rw [q] at p; exact p
theorem ss_setLcN (h : PS X st (tAsg (tF (kx X) W mf) (gName i))) : SS X W st (sSet i (eNw mf)) := PS.imp h fun D σ H q => nw_read (set_read q)
end
end Rf
set_option Elab.async false
set_option linter.all false
set_option maxRecDepth 100000
set_option maxHeartbeats 0
namespace Rf
open PySem PySem.Spec PyProof.Rows L2 TL
variable {xp : ExP}
noncomputable abbrev c__law_deck : Fn := c_deck
noncomputable abbrev m__law_same (r_self : Fn) : SM := sSeq (sIf (tOo (tTr (eCall bIsI (aCons (pVar 0) (aCons (eTup (aCons (eC (.ty "tuple")) (aCons (eC (.ty "list")) (aNil)))) (aNil))))) (tTr (eCall bIsI (aCons (pVar 1) (aCons (eTup (aCons (eC (.ty "tuple")) (aCons (eC (.ty "list")) (aNil)))) (aNil)))))) (sSeq (sIf (tOo (tOfE (eBin cNe (eCall bIsI (aCons (pVar 0) (aCons (eC (.ty "tuple")) (aNil)))) (eCall bIsI (aCons (pVar 1) (aCons (eC (.ty "tuple")) (aNil)))))) (tOfE (eBin cNe (eCall bIsI (aCons (pVar 0) (aCons (eC (.ty "list")) (aNil)))) (eCall bIsI (aCons (pVar 1) (aCons (eC (.ty "list")) (aNil))))))) (sSeq (sRet (eC (.bl false))) (sNil)) (sNil)) (sSeq (sRet (eAn (eBin cEq (eCall bLen (aCons (pVar 0) (aNil))) (eCall bLen (aCons (pVar 1) (aNil)))) (eCall bAll (aCons (eFz (fLc (iArS zipS (aCons (pVar 0) (aCons (pVar 1) (aNil)))) [2, 3] (.tup [.nm 2, .nm 3]) (tYs) (eFn r_self (aCons (eVar 2) (aCons (eVar 3) (aNil)))))) (aNil))))) (sNil))) (sNil)) (sSeq (sIf (tOo (tTr (eCall bIsI (aCons (pVar 0) (aCons (eC (.ty "bool")) (aNil))))) (tTr (eCall bIsI (aCons (pVar 1) (aCons (eC (.ty "bool")) (aNil)))))) (sSeq (sRet (eAn (eCall bIsI (aCons (pVar 0) (aCons (eC (.ty "bool")) (aNil)))) (eAn (eCall bIsI (aCons (pVar 1) (aCons (eC (.ty "bool")) (aNil)))) (eBin cEq (pVar 0) (pVar 1))))) (sNil)) (sNil)) (sSeq (sIf (tOo (tTr (eCall bIsI (aCons (pVar 0) (aCons (eC (.ty "int")) (aNil))))) (tTr (eCall bIsI (aCons (pVar 1) (aCons (eC (.ty "int")) (aNil)))))) (sSeq (sRet (eAn (eCall bIsI (aCons (pVar 0) (aCons (eC (.ty "int")) (aNil)))) (eAn (eCall bIsI (aCons (pVar 1) (aCons (eC (.ty "int")) (aNil)))) (eBin cEq (pVar 0) (pVar 1))))) (sNil)) (sNil)) (sSeq (sIf (tOo (tTr (eCall bIsI (aCons (pVar 0) (aCons (eC (.ty "str")) (aNil))))) (tTr (eCall bIsI (aCons (pVar 1) (aCons (eC (.ty "str")) (aNil)))))) (sSeq (sRet (eAn (eCall bIsI (aCons (pVar 0) (aCons (eC (.ty "str")) (aNil)))) (eAn (eCall bIsI (aCons (pVar 1) (aCons (eC (.ty "str")) (aNil)))) (eBin cEq (pVar 0) (pVar 1))))) (sNil)) (sNil)) (sSeq (sRet (eAn (eBin cIs (pVar 0) (eC .non)) (eBin cIs (pVar 1) (eC .non)))) (sNil)))))
noncomputable def c__law_same : Nat → Fn
  | 0 => fnSem 4 2 sNo
  | n + 1 => fnSem 4 2 (m__law_same (c__law_same n))
theorem u__law_same {x0 x1 : D} {n : Nat} {S : Sto} {P : D → Sto → Prop} (h : wps (m__law_same (c__law_same n) [.v x0, .v x1, .un, .un] S) fun fl _ S1 => match fl with
    | .nx => P .non S1
    | .rt d => P d S1
    | _ => False) : wp (c__law_same (n + 1) [x0, x1] S) P := q_fn rfl h
noncomputable abbrev c__law_draw : Fn := c_draw1
noncomputable abbrev c__law_one : Fn := c_one
end Rf
set_option Elab.async false
set_option linter.all false
set_option maxRecDepth 100000
set_option maxHeartbeats 0
namespace Lw
open PySem PySem.Spec PyProof.Rows L2 TL Rf
variable {xp : ExP}
def top (i : Nat) : Stmt := PySem.Challenge.pw_maybesame_k44_whole_rules_as_an_algebra.main.body.getD i (.Pass ⟨0, 0, 0, 0⟩)
noncomputable abbrev m_Kinds___init__ : SM := sSeq (sFl ["Rule", "Both", "Either", "Other", "Always", "Kinds", "Between", "Sizes", "SamePlace", "Written"] "kinds" (eVar 0) (eVar 1)) (sNil)
noncomputable def c_Kinds___init__ : Fn := fnSem 2 2 m_Kinds___init__
theorem u_Kinds___init__ {x0 x1 : D} {S : Sto} {P : D → Sto → Prop} (h : wps (m_Kinds___init__ [.v x0, .v x1] S) fun fl _ S1 => match fl with
    | .nx => P .non S1
    | .rt d => P d S1
    | _ => False) : wp (c_Kinds___init__ [x0, x1] S) P := q_fn rfl h
noncomputable abbrev m__law_kinds : SM := sSeq (sIf (tOfE (eBin cEq (eCall bLen (aCons (pVar 0) (aNil))) (eC (.int 0)))) (sSeq (sRet (eMkS "Kinds" c_Kinds___init__ aNil)) (sNil)) (sNil)) (sSeq (sIf (tOfE (eBin cEq (eCall bLen (aCons (pVar 0) (aNil))) (eC (.int 1)))) (sSeq (sRet (eMkS "Kinds" c_Kinds___init__ (aCons (eBin oIx (pVar 0) (eC (.int 0))) (aNil)))) (sNil)) (sNil)) (sSeq (sIf (tOfE (eBin cEq (eCall bLen (aCons (pVar 0) (aNil))) (eC (.int 2)))) (sSeq (sRet (eMkS "Kinds" c_Kinds___init__ (aCons (eBin oIx (pVar 0) (eC (.int 0))) (aCons (eBin oIx (pVar 0) (eC (.int 1))) (aNil))))) (sNil)) (sNil)) (sSeq (sRet (eMkS "Kinds" c_Kinds___init__ (aCons (eBin oIx (pVar 0) (eC (.int 0))) (aCons (eBin oIx (pVar 0) (eC (.int 1))) (aCons (eBin oIx (pVar 0) (eC (.int 2))) (aNil)))))) (sNil))))
noncomputable def c__law_kinds : Fn := fnSem 1 1 m__law_kinds
theorem u__law_kinds {x0 : D} {S : Sto} {P : D → Sto → Prop} (h : wps (m__law_kinds [.v x0] S) fun fl _ S1 => match fl with
    | .nx => P .non S1
    | .rt d => P d S1
    | _ => False) : wp (c__law_kinds [x0] S) P := q_fn rfl h
noncomputable abbrev m_Between___init__ : SM := sSeq (sFl ["Rule", "Both", "Either", "Other", "Always", "Kinds", "Between", "Sizes", "SamePlace", "Written"] "low" (eVar 0) (eVar 1)) (sSeq (sFl ["Rule", "Both", "Either", "Other", "Always", "Kinds", "Between", "Sizes", "SamePlace", "Written"] "high" (eVar 0) (eVar 2)) (sNil))
noncomputable def c_Between___init__ : Fn := fnSem 3 3 m_Between___init__
theorem u_Between___init__ {x0 x1 x2 : D} {S : Sto} {P : D → Sto → Prop} (h : wps (m_Between___init__ [.v x0, .v x1, .v x2] S) fun fl _ S1 => match fl with
    | .nx => P .non S1
    | .rt d => P d S1
    | _ => False) : wp (c_Between___init__ [x0, x1, x2] S) P := q_fn rfl h
noncomputable abbrev m_Sizes___init__ : SM := sSeq (sFl ["Rule", "Both", "Either", "Other", "Always", "Kinds", "Between", "Sizes", "SamePlace", "Written"] "most" (eVar 0) (eVar 1)) (sNil)
noncomputable def c_Sizes___init__ : Fn := fnSem 2 2 m_Sizes___init__
theorem u_Sizes___init__ {x0 x1 : D} {S : Sto} {P : D → Sto → Prop} (h : wps (m_Sizes___init__ [.v x0, .v x1] S) fun fl _ S1 => match fl with
    | .nx => P .non S1
    | .rt d => P d S1
    | _ => False) : wp (c_Sizes___init__ [x0, x1] S) P := q_fn rfl h
noncomputable abbrev m__law_basic : SM := sSeq (sSet 1 (eFn c__law_draw (aCons (eVar 0) (aCons (eC (.int 9)) (aNil))))) (sSeq (sSet 2 (eFz (fLst (aCons (eC (.int 0)) (aCons (eC (.int 1)) (aCons (eNeg (eC (.int 5))) (aCons (eC (.int 256)) (aCons (eBin oPow (eC (.int 10)) (eC (.int 18))) (aCons (eNeg (eBin oPow (eC (.int 10)) (eC (.int 40)))) (aCons (eFn c__law_draw (aCons (eVar 0) (aCons (eC (.int 1000)) (aNil)))) (aNil))))))))))) (sSeq (sSet 3 (eFz (fLst (aCons (eC (.str [110, 117, 109, 98, 101, 114])) (aCons (eC (.str [111, 100, 100])) (aCons (eC (.str [119, 111, 114, 100])) (aCons (eC (.str [116, 117, 112, 108, 101])) (aCons (eC (.str [114, 111, 119])) (aCons (eC (.str [])) (aNil)))))))))) (sSeq (sIf (tOfE (eBin cEq (pVar 1) (eC (.int 0)))) (sSeq (sRet (eTup (aCons (eMk0 "Rule") (aCons (eTup (aCons (eC (.str [110, 101, 118, 101, 114])) (aCons (eC .non) (aCons (eC .non) (aNil))))) (aNil))))) (sNil)) (sNil)) (sSeq (sIf (tOfE (eBin cEq (pVar 1) (eC (.int 1)))) (sSeq (sRet (eTup (aCons (eMk0 "Always") (aCons (eTup (aCons (eC (.str [97, 108, 119, 97, 121, 115])) (aCons (eC .non) (aCons (eC .non) (aNil))))) (aNil))))) (sNil)) (sNil)) (sSeq (sIf (tOfE (eBin cLt (pVar 1) (eC (.int 4)))) (sSeq (sSet 4 (eFz (fLc (iArgs rng1 (aCons (eFn c__law_draw (aCons (eVar 0) (aCons (eC (.int 4)) (aNil)))) (aNil))) [5] (.nm 5) (tYs) (eFn c__law_one (aCons (eVar 0) (aCons (eVar 3) (aNil))))))) (sSeq (sRet (eTup (aCons (eFn c__law_kinds (aCons (eVar 4) (aNil))) (aCons (eTup (aCons (eC (.str [107, 105, 110, 100, 115])) (aCons (eVar 4) (aCons (eC .non) (aNil))))) (aNil))))) (sNil))) (sNil)) (sSeq (sIf (tOfE (eBin cLt (pVar 1) (eC (.int 6)))) (sSeq (sPar2 6 7 (aCons (eFn c__law_one (aCons (eVar 0) (aCons (eVar 2) (aNil)))) (aCons (eFn c__law_one (aCons (eVar 0) (aCons (eVar 2) (aNil)))) (aNil)))) (sSeq (sRet (eTup (aCons (eMk "Between" c_Between___init__ (aCons (eVar 6) (aCons (eVar 7) (aNil)))) (aCons (eTup (aCons (eC (.str [98, 101, 116, 119, 101, 101, 110])) (aCons (eVar 6) (aCons (eVar 7) (aNil))))) (aNil))))) (sNil))) (sNil)) (sSeq (sIf (tOfE (eBin cEq (pVar 1) (eC (.int 6)))) (sSeq (sSet 8 (eFn c__law_one (aCons (eVar 0) (aCons (eFz (fLst (aCons (eC (.int 0)) (aCons (eC (.int 1)) (aCons (eC (.int 2)) (aCons (eC (.int 3)) (aCons (eC (.int 30)) (aCons (eNeg (eC (.int 1))) (aCons (eBin oPow (eC (.int 10)) (eC (.int 20))) (aNil)))))))))) (aNil))))) (sSeq (sRet (eTup (aCons (eMk "Sizes" c_Sizes___init__ (aCons (eVar 8) (aNil))) (aCons (eTup (aCons (eC (.str [115, 105, 122, 101, 115])) (aCons (eVar 8) (aCons (eC .non) (aNil))))) (aNil))))) (sNil))) (sNil)) (sSeq (sIf (tOfE (eBin cEq (pVar 1) (eC (.int 7)))) (sSeq (sRet (eTup (aCons (eMk0 "SamePlace") (aCons (eTup (aCons (eC (.str [115, 97, 109, 101])) (aCons (eC .non) (aCons (eC .non) (aNil))))) (aNil))))) (sNil)) (sNil)) (sSeq (sRet (eTup (aCons (eMk0 "Written") (aCons (eTup (aCons (eC (.str [119, 114, 105, 116, 116, 101, 110])) (aCons (eC .non) (aCons (eC .non) (aNil))))) (aNil))))) (sNil))))))))))
noncomputable def c__law_basic : Fn := fnSem 9 1 m__law_basic
theorem u__law_basic {x0 : D} {S : Sto} {P : D → Sto → Prop} (h : wps (m__law_basic [.v x0, .un, .un, .un, .un, .un, .un, .un, .un] S) fun fl _ S1 => match fl with
    | .nx => P .non S1
    | .rt d => P d S1
    | _ => False) : wp (c__law_basic [x0] S) P := q_fn rfl h
noncomputable abbrev m__law_marks : SM := sSeq (sSet 1 (eFn c__law_one (aCons (eVar 0) (aCons (eFz (fLst (aCons (eC (.str [110, 117, 109, 98, 101, 114])) (aCons (eC (.str [111, 100, 100])) (aCons (eC (.str [119, 111, 114, 100])) (aCons (eC (.str [116, 117, 112, 108, 101])) (aNil))))))) (aNil))))) (sSeq (sSet 2 (eC .non)) (sSeq (sIf (tOfE (eBin cEq (pVar 1) (eC (.str [110, 117, 109, 98, 101, 114])))) (sSeq (sSet 2 (eFn c__law_one (aCons (eVar 0) (aCons (eFz (fLst (aCons (eC (.int 0)) (aCons (eC (.int 1)) (aCons (eNeg (eC (.int 5))) (aCons (eC (.int 256)) (aCons (eC (.int 257)) (aCons (eNeg (eC (.int 6))) (aCons (eBin oPow (eC (.int 10)) (eC (.int 18))) (aCons (eNeg (eBin oPow (eC (.int 10)) (eC (.int 40)))) (aCons (eFn c__law_draw (aCons (eVar 0) (aCons (eC (.int 1000)) (aNil)))) (aNil)))))))))))) (aNil))))) (sNil)) (sNil)) (sSeq (sSet 3 (eIf (tOfE (eBin cEq (pVar 1) (eC (.str [116, 117, 112, 108, 101])))) (eBin oAdd (eC (.int 1)) (eFn c__law_draw (aCons (eVar 0) (aCons (eC (.int 30)) (aNil))))) (eC (.int 1)))) (sSeq (sOwn 4 (fLst (aCons (eC (.int 0)) (aCons (eC (.int 1)) (aCons (eFn c__law_draw (aCons (eVar 0) (aCons (eC (.int 30)) (aNil)))) (aCons (eC (.int 29)) (aNil))))))) (sSeq (sIf (tOfE (eBin cEq (pVar 1) (eC (.str [119, 111, 114, 100])))) (sSeq (sExt 4 (eFz (fLst (aCons (eC .non) (aCons (eC .non) (aNil)))))) (sNil)) (sNil)) (sSeq (sFrz 4 (sPar2 5 6 (aCons (eFn c__law_one (aCons (eVar 0) (aCons (eVar 4) (aNil)))) (aCons (eFn c__law_one (aCons (eVar 0) (aCons (eVar 4) (aNil)))) (aNil))))) (sSeq (sRet (eTup (aCons (eTup (aCons (eVar 1) (aCons (eVar 5) (aCons (eVar 3) (aCons (eVar 2) (aNil)))))) (aCons (eTup (aCons (eVar 1) (aCons (eVar 6) (aCons (eVar 3) (aCons (eVar 2) (aNil)))))) (aNil))))) (sNil))))))))
noncomputable def c__law_marks : Fn := fnSem 7 1 m__law_marks
theorem u__law_marks {x0 : D} {S : Sto} {P : D → Sto → Prop} (h : wps (m__law_marks [.v x0, .un, .un, .un, .un, .un, .un] S) fun fl _ S1 => match fl with
    | .nx => P .non S1
    | .rt d => P d S1
    | _ => False) : wp (c__law_marks [x0] S) P := q_fn rfl h
noncomputable abbrev m__law_lets : SM := sSeq (sTg (.tup [.nm 3, .nm 4, .nm 5]) (eVar 0)) (sSeq (sIf (tOfE (eBin cEq (pVar 3) (eC (.str [107, 105, 110, 100, 115])))) (sSeq (sRet (eBin cIn (eBin oIx (pVar 1) (eC (.int 0))) (pVar 4))) (sNil)) (sNil)) (sSeq (sIf (tOfE (eBin cEq (pVar 3) (eC (.str [98, 101, 116, 119, 101, 101, 110])))) (sSeq (sRet (eAn (eBin cIsNot (eBin oIx (pVar 1) (eC (.int 3))) (eC .non)) (eAn (eBin cLe (pVar 4) (eBin oIx (pVar 1) (eC (.int 3)))) (eBin cLe (eBin oIx (pVar 1) (eC (.int 3))) (pVar 5))))) (sNil)) (sNil)) (sSeq (sIf (tOfE (eBin cEq (pVar 3) (eC (.str [115, 105, 122, 101, 115])))) (sSeq (sRet (eBin cLe (eBin oIx (pVar 1) (eC (.int 2))) (pVar 4))) (sNil)) (sNil)) (sSeq (sIf (tOfE (eBin cEq (pVar 3) (eC (.str [115, 97, 109, 101])))) (sSeq (sRet (eAn (eBin cIsNot (eBin oIx (pVar 1) (eC (.int 1))) (eC .non)) (eAn (eBin cIsNot (eBin oIx (pVar 2) (eC (.int 1))) (eC .non)) (eBin cEq (eBin oIx (pVar 1) (eC (.int 1))) (eBin oIx (pVar 2) (eC (.int 1))))))) (sNil)) (sNil)) (sSeq (sIf (tOfE (eBin cEq (pVar 3) (eC (.str [119, 114, 105, 116, 116, 101, 110])))) (sSeq (sRet (eAn (eBin cIsNot (eBin oIx (pVar 1) (eC (.int 1))) (eC .non)) (eBin cIsNot (eBin oIx (pVar 2) (eC (.int 1))) (eC .non)))) (sNil)) (sNil)) (sSeq (sRet (eBin cEq (pVar 3) (eC (.str [97, 108, 119, 97, 121, 115])))) (sNil)))))))
noncomputable def c__law_lets : Fn := fnSem 6 3 m__law_lets
theorem u__law_lets {x0 x1 x2 : D} {S : Sto} {P : D → Sto → Prop} (h : wps (m__law_lets [.v x0, .v x1, .v x2, .un, .un, .un] S) fun fl _ S1 => match fl with
    | .nx => P .non S1
    | .rt d => P d S1
    | _ => False) : wp (c__law_lets [x0, x1, x2] S) P := q_fn rfl h
noncomputable abbrev m__law_truths : SM := sSeq (sOwn 3 (fLst (aNil))) (sSeq (sFor (iVal (eVar 0)) (.tup [.nm 4, .nm 5]) (sSeq (sTg (.tup [.nm 6, .nm 7, .nm 8]) (eVar 5)) (sSeq (sIf (tOfE (eBin cEq (pVar 6) (eC (.str [97, 110, 100])))) (sSeq (sApp 3 (eAn (eBin oIx (pVar 3) (pVar 7)) (eBin oIx (pVar 3) (pVar 8)))) (sNil)) (sSeq (sIf (tOfE (eBin cEq (pVar 6) (eC (.str [111, 114])))) (sSeq (sApp 3 (eOo (eBin oIx (pVar 3) (pVar 7)) (eBin oIx (pVar 3) (pVar 8)))) (sNil)) (sSeq (sIf (tOfE (eBin cEq (pVar 6) (eC (.str [108, 101, 115, 115])))) (sSeq (sApp 3 (eAn (eBin oIx (pVar 3) (pVar 7)) (eNt (eBin oIx (pVar 3) (pVar 8))))) (sNil)) (sSeq (sIf (tOfE (eBin cEq (pVar 6) (eC (.str [110, 111, 116])))) (sSeq (sApp 3 (eNt (eBin oIx (pVar 3) (pVar 7)))) (sNil)) (sSeq (sApp 3 (eFn c__law_lets (aCons (eVar 5) (aCons (eVar 1) (aCons (eVar 2) (aNil)))))) (sNil))) (sNil))) (sNil))) (sNil))) (sNil)))) (sSeq (sFrz 3 (sRet (eVar 3))) (sNil)))
noncomputable def c__law_truths : Fn := fnSem 9 3 m__law_truths
theorem u__law_truths {x0 x1 x2 : D} {S : Sto} {P : D → Sto → Prop} (h : wps (m__law_truths [.v x0, .v x1, .v x2, .un, .un, .un, .un, .un, .un] S) fun fl _ S1 => match fl with
    | .nx => P .non S1
    | .rt d => P d S1
    | _ => False) : wp (c__law_truths [x0, x1, x2] S) P := q_fn rfl h
noncomputable abbrev m_Other___init__ : SM := sSeq (sFl ["Rule", "Both", "Either", "Other", "Always", "Kinds", "Between", "Sizes", "SamePlace", "Written"] "turned_rule" (eVar 0) (eVar 1)) (sNil)
noncomputable def c_Other___init__ : Fn := fnSem 2 2 m_Other___init__
theorem u_Other___init__ {x0 x1 : D} {S : Sto} {P : D → Sto → Prop} (h : wps (m_Other___init__ [.v x0, .v x1] S) fun fl _ S1 => match fl with
    | .nx => P .non S1
    | .rt d => P d S1
    | _ => False) : wp (c_Other___init__ [x0, x1] S) P := q_fn rfl h
noncomputable abbrev m_Rule___invert__ : SM := sSeq (sRet (eMk "Other" c_Other___init__ (aCons (eVar 0) (aNil)))) (sNil)
noncomputable def c_Rule___invert__ : Fn := fnSem 1 1 m_Rule___invert__
theorem u_Rule___invert__ {x0 : D} {S : Sto} {P : D → Sto → Prop} (h : wps (m_Rule___invert__ [.v x0] S) fun fl _ S1 => match fl with
    | .nx => P .non S1
    | .rt d => P d S1
    | _ => False) : wp (c_Rule___invert__ [x0] S) P := q_fn rfl h
noncomputable abbrev m_Both___init__ : SM := sSeq (sFl ["Rule", "Both", "Either", "Other", "Always", "Kinds", "Between", "Sizes", "SamePlace", "Written"] "first_rule" (eVar 0) (eVar 1)) (sSeq (sFl ["Rule", "Both", "Either", "Other", "Always", "Kinds", "Between", "Sizes", "SamePlace", "Written"] "second_rule" (eVar 0) (eVar 2)) (sNil))
noncomputable def c_Both___init__ : Fn := fnSem 3 3 m_Both___init__
theorem u_Both___init__ {x0 x1 x2 : D} {S : Sto} {P : D → Sto → Prop} (h : wps (m_Both___init__ [.v x0, .v x1, .v x2] S) fun fl _ S1 => match fl with
    | .nx => P .non S1
    | .rt d => P d S1
    | _ => False) : wp (c_Both___init__ [x0, x1, x2] S) P := q_fn rfl h
noncomputable abbrev m_Rule___and__ : SM := sSeq (sRet (eMk "Both" c_Both___init__ (aCons (eVar 0) (aCons (eVar 1) (aNil))))) (sNil)
noncomputable def c_Rule___and__ : Fn := fnSem 2 2 m_Rule___and__
theorem u_Rule___and__ {x0 x1 : D} {S : Sto} {P : D → Sto → Prop} (h : wps (m_Rule___and__ [.v x0, .v x1] S) fun fl _ S1 => match fl with
    | .nx => P .non S1
    | .rt d => P d S1
    | _ => False) : wp (c_Rule___and__ [x0, x1] S) P := q_fn rfl h
noncomputable abbrev m_Either___init__ : SM := sSeq (sFl ["Rule", "Both", "Either", "Other", "Always", "Kinds", "Between", "Sizes", "SamePlace", "Written"] "first_rule" (eVar 0) (eVar 1)) (sSeq (sFl ["Rule", "Both", "Either", "Other", "Always", "Kinds", "Between", "Sizes", "SamePlace", "Written"] "second_rule" (eVar 0) (eVar 2)) (sNil))
noncomputable def c_Either___init__ : Fn := fnSem 3 3 m_Either___init__
theorem u_Either___init__ {x0 x1 x2 : D} {S : Sto} {P : D → Sto → Prop} (h : wps (m_Either___init__ [.v x0, .v x1, .v x2] S) fun fl _ S1 => match fl with
    | .nx => P .non S1
    | .rt d => P d S1
    | _ => False) : wp (c_Either___init__ [x0, x1, x2] S) P := q_fn rfl h
noncomputable abbrev m_Rule___or__ : SM := sSeq (sRet (eMk "Either" c_Either___init__ (aCons (eVar 0) (aCons (eVar 1) (aNil))))) (sNil)
noncomputable def c_Rule___or__ : Fn := fnSem 2 2 m_Rule___or__
theorem u_Rule___or__ {x0 x1 : D} {S : Sto} {P : D → Sto → Prop} (h : wps (m_Rule___or__ [.v x0, .v x1] S) fun fl _ S1 => match fl with
    | .nx => P .non S1
    | .rt d => P d S1
    | _ => False) : wp (c_Rule___or__ [x0, x1] S) P := q_fn rfl h
noncomputable abbrev m_Rule___sub__ : SM := sSeq (sRet (eMk "Both" c_Both___init__ (aCons (eVar 0) (aCons (eMk "Other" c_Other___init__ (aCons (eVar 1) (aNil))) (aNil))))) (sNil)
noncomputable def c_Rule___sub__ : Fn := fnSem 2 2 m_Rule___sub__
theorem u_Rule___sub__ {x0 x1 : D} {S : Sto} {P : D → Sto → Prop} (h : wps (m_Rule___sub__ [.v x0, .v x1] S) fun fl _ S1 => match fl with
    | .nx => P .non S1
    | .rt d => P d S1
    | _ => False) : wp (c_Rule___sub__ [x0, x1] S) P := q_fn rfl h
noncomputable abbrev m__law_joined : SM := sSeq (sPar2 2 3 (aCons (eFn c__law_draw (aCons (eVar 0) (aCons (eCall bLen (aCons (pVar 1) (aNil))) (aNil)))) (aCons (eFn c__law_draw (aCons (eVar 0) (aCons (eCall bLen (aCons (pVar 1) (aNil))) (aNil)))) (aNil)))) (sSeq (sPar2 4 5 (aCons (eBin oIx (eBin oIx (pVar 1) (pVar 2)) (eC (.int 0))) (aCons (eBin oIx (eBin oIx (pVar 1) (pVar 3)) (eC (.int 0))) (aNil)))) (sSeq (sSet 6 (eFn c__law_draw (aCons (eVar 0) (aCons (eC (.int 4)) (aNil))))) (sSeq (sIf (tOfE (eBin cEq (pVar 6) (eC (.int 0)))) (sSeq (sRet (eTup (aCons (eOpI ["Rule", "Both", "Either", "Other", "Always", "Kinds", "Between", "Sizes", "SamePlace", "Written"] c_Rule___and__ (eVar 4) (eVar 5)) (aCons (eTup (aCons (eC (.str [97, 110, 100])) (aCons (eVar 2) (aCons (eVar 3) (aNil))))) (aNil))))) (sNil)) (sNil)) (sSeq (sIf (tOfE (eBin cEq (pVar 6) (eC (.int 1)))) (sSeq (sRet (eTup (aCons (eOpI ["Rule", "Both", "Either", "Other", "Always", "Kinds", "Between", "Sizes", "SamePlace", "Written"] c_Rule___or__ (eVar 4) (eVar 5)) (aCons (eTup (aCons (eC (.str [111, 114])) (aCons (eVar 2) (aCons (eVar 3) (aNil))))) (aNil))))) (sNil)) (sNil)) (sSeq (sIf (tOfE (eBin cEq (pVar 6) (eC (.int 2)))) (sSeq (sRet (eTup (aCons (eOpI ["Rule", "Both", "Either", "Other", "Always", "Kinds", "Between", "Sizes", "SamePlace", "Written"] c_Rule___sub__ (eVar 4) (eVar 5)) (aCons (eTup (aCons (eC (.str [108, 101, 115, 115])) (aCons (eVar 2) (aCons (eVar 3) (aNil))))) (aNil))))) (sNil)) (sNil)) (sSeq (sRet (eTup (aCons (eInv ["Rule", "Both", "Either", "Other", "Always", "Kinds", "Between", "Sizes", "SamePlace", "Written"] c_Rule___invert__ (eVar 4)) (aCons (eTup (aCons (eC (.str [110, 111, 116])) (aCons (eVar 2) (aCons (eC .non) (aNil))))) (aNil))))) (sNil)))))))
noncomputable def c__law_joined : Fn := fnSem 7 2 m__law_joined
theorem u__law_joined {x0 x1 : D} {S : Sto} {P : D → Sto → Prop} (h : wps (m__law_joined [.v x0, .v x1, .un, .un, .un, .un, .un] S) fun fl _ S1 => match fl with
    | .nx => P .non S1
    | .rt d => P d S1
    | _ => False) : wp (c__law_joined [x0, x1] S) P := q_fn rfl h
noncomputable abbrev m_Rule_allows : SM := sSeq (sRet (eC (.bl false))) (sNil)
noncomputable def c_Rule_allows : Fn := fnSem 3 3 m_Rule_allows
theorem u_Rule_allows {x0 x1 x2 : D} {S : Sto} {P : D → Sto → Prop} (h : wps (m_Rule_allows [.v x0, .v x1, .v x2] S) fun fl _ S1 => match fl with
    | .nx => P .non S1
    | .rt d => P d S1
    | _ => False) : wp (c_Rule_allows [x0, x1, x2] S) P := q_fn rfl h
noncomputable abbrev m_Always_allows : SM := sSeq (sRet (eC (.bl true))) (sNil)
noncomputable def c_Always_allows : Fn := fnSem 3 3 m_Always_allows
theorem u_Always_allows {x0 x1 x2 : D} {S : Sto} {P : D → Sto → Prop} (h : wps (m_Always_allows [.v x0, .v x1, .v x2] S) fun fl _ S1 => match fl with
    | .nx => P .non S1
    | .rt d => P d S1
    | _ => False) : wp (c_Always_allows [x0, x1, x2] S) P := q_fn rfl h
noncomputable abbrev m_Kinds_allows : SM := sSeq (sRet (eBin cIn (eBin oIx (pVar 1) (eC (.int 0))) (eFl ["Rule", "Both", "Either", "Other", "Always", "Kinds", "Between", "Sizes", "SamePlace", "Written"] "kinds" (eVar 0)))) (sNil)
noncomputable def c_Kinds_allows : Fn := fnSem 3 3 m_Kinds_allows
theorem u_Kinds_allows {x0 x1 x2 : D} {S : Sto} {P : D → Sto → Prop} (h : wps (m_Kinds_allows [.v x0, .v x1, .v x2] S) fun fl _ S1 => match fl with
    | .nx => P .non S1
    | .rt d => P d S1
    | _ => False) : wp (c_Kinds_allows [x0, x1, x2] S) P := q_fn rfl h
noncomputable abbrev m_Between_allows : SM := sSeq (sRet (eAn (eBin cIsNot (eBin oIx (pVar 1) (eC (.int 3))) (eC .non)) (eCh cLe cLe (eFl ["Rule", "Both", "Either", "Other", "Always", "Kinds", "Between", "Sizes", "SamePlace", "Written"] "low" (eVar 0)) (eBin oIx (pVar 1) (eC (.int 3))) (eFl ["Rule", "Both", "Either", "Other", "Always", "Kinds", "Between", "Sizes", "SamePlace", "Written"] "high" (eVar 0))))) (sNil)
noncomputable def c_Between_allows : Fn := fnSem 3 3 m_Between_allows
theorem u_Between_allows {x0 x1 x2 : D} {S : Sto} {P : D → Sto → Prop} (h : wps (m_Between_allows [.v x0, .v x1, .v x2] S) fun fl _ S1 => match fl with
    | .nx => P .non S1
    | .rt d => P d S1
    | _ => False) : wp (c_Between_allows [x0, x1, x2] S) P := q_fn rfl h
noncomputable abbrev m_Sizes_allows : SM := sSeq (sRet (eBin cLe (eBin oIx (pVar 1) (eC (.int 2))) (eFl ["Rule", "Both", "Either", "Other", "Always", "Kinds", "Between", "Sizes", "SamePlace", "Written"] "most" (eVar 0)))) (sNil)
noncomputable def c_Sizes_allows : Fn := fnSem 3 3 m_Sizes_allows
theorem u_Sizes_allows {x0 x1 x2 : D} {S : Sto} {P : D → Sto → Prop} (h : wps (m_Sizes_allows [.v x0, .v x1, .v x2] S) fun fl _ S1 => match fl with
    | .nx => P .non S1
    | .rt d => P d S1
    | _ => False) : wp (c_Sizes_allows [x0, x1, x2] S) P := q_fn rfl h
noncomputable abbrev m_SamePlace_allows : SM := sSeq (sRet (eAn (eBin cIsNot (eBin oIx (pVar 1) (eC (.int 1))) (eC .non)) (eBin cEq (eBin oIx (pVar 1) (eC (.int 1))) (eBin oIx (pVar 2) (eC (.int 1)))))) (sNil)
noncomputable def c_SamePlace_allows : Fn := fnSem 3 3 m_SamePlace_allows
theorem u_SamePlace_allows {x0 x1 x2 : D} {S : Sto} {P : D → Sto → Prop} (h : wps (m_SamePlace_allows [.v x0, .v x1, .v x2] S) fun fl _ S1 => match fl with
    | .nx => P .non S1
    | .rt d => P d S1
    | _ => False) : wp (c_SamePlace_allows [x0, x1, x2] S) P := q_fn rfl h
noncomputable abbrev m_Written_allows : SM := sSeq (sRet (eAn (eBin cIsNot (eBin oIx (pVar 1) (eC (.int 1))) (eC .non)) (eBin cIsNot (eBin oIx (pVar 2) (eC (.int 1))) (eC .non)))) (sNil)
noncomputable def c_Written_allows : Fn := fnSem 3 3 m_Written_allows
theorem u_Written_allows {x0 x1 x2 : D} {S : Sto} {P : D → Sto → Prop} (h : wps (m_Written_allows [.v x0, .v x1, .v x2] S) fun fl _ S1 => match fl with
    | .nx => P .non S1
    | .rt d => P d S1
    | _ => False) : wp (c_Written_allows [x0, x1, x2] S) P := q_fn rfl h
noncomputable abbrev m_Both_allows (r_self : Nat → Fn) : SM := sSeq (sRet (eAn (eMt "allows" [("Rule", c_Rule_allows), ("Both", (r_self 0)), ("Either", (r_self 1)), ("Other", (r_self 2)), ("Always", c_Always_allows), ("Kinds", c_Kinds_allows), ("Between", c_Between_allows), ("Sizes", c_Sizes_allows), ("SamePlace", c_SamePlace_allows), ("Written", c_Written_allows)] (eFl ["Rule", "Both", "Either", "Other", "Always", "Kinds", "Between", "Sizes", "SamePlace", "Written"] "first_rule" (eVar 0)) (aCons (eVar 1) (aCons (eVar 2) (aNil)))) (eMt "allows" [("Rule", c_Rule_allows), ("Both", (r_self 0)), ("Either", (r_self 1)), ("Other", (r_self 2)), ("Always", c_Always_allows), ("Kinds", c_Kinds_allows), ("Between", c_Between_allows), ("Sizes", c_Sizes_allows), ("SamePlace", c_SamePlace_allows), ("Written", c_Written_allows)] (eFl ["Rule", "Both", "Either", "Other", "Always", "Kinds", "Between", "Sizes", "SamePlace", "Written"] "second_rule" (eVar 0)) (aCons (eVar 1) (aCons (eVar 2) (aNil)))))) (sNil)
noncomputable abbrev m_Either_allows (r_self : Nat → Fn) : SM := sSeq (sRet (eOo (eMt "allows" [("Rule", c_Rule_allows), ("Both", (r_self 0)), ("Either", (r_self 1)), ("Other", (r_self 2)), ("Always", c_Always_allows), ("Kinds", c_Kinds_allows), ("Between", c_Between_allows), ("Sizes", c_Sizes_allows), ("SamePlace", c_SamePlace_allows), ("Written", c_Written_allows)] (eFl ["Rule", "Both", "Either", "Other", "Always", "Kinds", "Between", "Sizes", "SamePlace", "Written"] "first_rule" (eVar 0)) (aCons (eVar 1) (aCons (eVar 2) (aNil)))) (eMt "allows" [("Rule", c_Rule_allows), ("Both", (r_self 0)), ("Either", (r_self 1)), ("Other", (r_self 2)), ("Always", c_Always_allows), ("Kinds", c_Kinds_allows), ("Between", c_Between_allows), ("Sizes", c_Sizes_allows), ("SamePlace", c_SamePlace_allows), ("Written", c_Written_allows)] (eFl ["Rule", "Both", "Either", "Other", "Always", "Kinds", "Between", "Sizes", "SamePlace", "Written"] "second_rule" (eVar 0)) (aCons (eVar 1) (aCons (eVar 2) (aNil)))))) (sNil)
noncomputable abbrev m_Other_allows (r_self : Nat → Fn) : SM := sSeq (sRet (eNt (eMt "allows" [("Rule", c_Rule_allows), ("Both", (r_self 0)), ("Either", (r_self 1)), ("Other", (r_self 2)), ("Always", c_Always_allows), ("Kinds", c_Kinds_allows), ("Between", c_Between_allows), ("Sizes", c_Sizes_allows), ("SamePlace", c_SamePlace_allows), ("Written", c_Written_allows)] (eFl ["Rule", "Both", "Either", "Other", "Always", "Kinds", "Between", "Sizes", "SamePlace", "Written"] "turned_rule" (eVar 0)) (aCons (eVar 1) (aCons (eVar 2) (aNil)))))) (sNil)
noncomputable def g_Both_allows : Nat → Nat → Fn
  | 0, 0 => fnSem 3 3 sNo
  | 0, 1 => fnSem 3 3 sNo
  | 0, 2 => fnSem 3 3 sNo
  | n + 1, 0 => fnSem 3 3 (m_Both_allows (g_Both_allows n))
  | n + 1, 1 => fnSem 3 3 (m_Either_allows (g_Both_allows n))
  | n + 1, 2 => fnSem 3 3 (m_Other_allows (g_Both_allows n))
  | _, _ => fun _ _ => .no
noncomputable abbrev c_Both_allows (n : Nat) : Fn := g_Both_allows n 0
noncomputable abbrev c_Either_allows (n : Nat) : Fn := g_Both_allows n 1
noncomputable abbrev c_Other_allows (n : Nat) : Fn := g_Both_allows n 2
theorem u_Both_allows {x0 x1 x2 : D} {n : Nat} {S : Sto} {P : D → Sto → Prop} (h : wps (m_Both_allows (g_Both_allows n) [.v x0, .v x1, .v x2] S) fun fl _ S1 => match fl with
    | .nx => P .non S1
    | .rt d => P d S1
    | _ => False) : wp (g_Both_allows (n + 1) 0 [x0, x1, x2] S) P := q_fn rfl h
theorem u_Either_allows {x0 x1 x2 : D} {n : Nat} {S : Sto} {P : D → Sto → Prop} (h : wps (m_Either_allows (g_Both_allows n) [.v x0, .v x1, .v x2] S) fun fl _ S1 => match fl with
    | .nx => P .non S1
    | .rt d => P d S1
    | _ => False) : wp (g_Both_allows (n + 1) 1 [x0, x1, x2] S) P := q_fn rfl h
theorem u_Other_allows {x0 x1 x2 : D} {n : Nat} {S : Sto} {P : D → Sto → Prop} (h : wps (m_Other_allows (g_Both_allows n) [.v x0, .v x1, .v x2] S) fun fl _ S1 => match fl with
    | .nx => P .non S1
    | .rt d => P d S1
    | _ => False) : wp (g_Both_allows (n + 1) 2 [x0, x1, x2] S) P := q_fn rfl h
noncomputable abbrev m_Rule___call__ : SM := sSeq (sRet (eMt "allows" [("Rule", c_Rule_allows), ("Both", (c_Both_allows 40)), ("Either", (c_Either_allows 40)), ("Other", (c_Other_allows 40)), ("Always", c_Always_allows), ("Kinds", c_Kinds_allows), ("Between", c_Between_allows), ("Sizes", c_Sizes_allows), ("SamePlace", c_SamePlace_allows), ("Written", c_Written_allows)] (eVar 0) (aCons (eVar 1) (aCons (eVar 2) (aNil))))) (sNil)
noncomputable def c_Rule___call__ : Fn := fnSem 3 3 m_Rule___call__
theorem u_Rule___call__ {x0 x1 x2 : D} {S : Sto} {P : D → Sto → Prop} (h : wps (m_Rule___call__ [.v x0, .v x1, .v x2] S) fun fl _ S1 => match fl with
    | .nx => P .non S1
    | .rt d => P d S1
    | _ => False) : wp (c_Rule___call__ [x0, x1, x2] S) P := q_fn rfl h
noncomputable abbrev m__law_same : SM := sSeq (sRet (eBin cEq (eCall bReprB (aCons (eCo [("Rule", c_Rule___call__), ("Both", c_Rule___call__), ("Either", c_Rule___call__), ("Other", c_Rule___call__), ("Always", c_Rule___call__), ("Kinds", c_Rule___call__), ("Between", c_Rule___call__), ("Sizes", c_Rule___call__), ("SamePlace", c_Rule___call__), ("Written", c_Rule___call__)] (eVar 0) (aCons (eVar 2) (aCons (eVar 3) (aNil)))) (aNil))) (eCall bReprB (aCons (eCo [("Rule", c_Rule___call__), ("Both", c_Rule___call__), ("Either", c_Rule___call__), ("Other", c_Rule___call__), ("Always", c_Rule___call__), ("Kinds", c_Rule___call__), ("Between", c_Rule___call__), ("Sizes", c_Rule___call__), ("SamePlace", c_Rule___call__), ("Written", c_Rule___call__)] (eVar 1) (aCons (eVar 2) (aCons (eVar 3) (aNil)))) (aNil))))) (sNil)
noncomputable def c__law_same : Fn := fnSem 4 4 m__law_same
theorem u__law_same {x0 x1 x2 x3 : D} {S : Sto} {P : D → Sto → Prop} (h : wps (m__law_same [.v x0, .v x1, .v x2, .v x3] S) fun fl _ S1 => match fl with
    | .nx => P .non S1
    | .rt d => P d S1
    | _ => False) : wp (c__law_same [x0, x1, x2, x3] S) P := q_fn rfl h
noncomputable abbrev m_law : SM := sSeq (sSet 1 (eFn c__law_deck (aCons (eVar 0) (aNil)))) (sSeq (sSet 2 (eNw (fLc (iArgs rng1 (aCons (eC (.int 3)) (aNil))) [3] (.nm 3) (tYs) (eFn c__law_basic (aCons (eVar 1) (aNil)))))) (sSeq (sFor (iArgs rng1 (aCons (eFn c__law_draw (aCons (eVar 1) (aCons (eC (.int 9)) (aNil)))) (aNil))) (.nm 3) (sSeq (sAppO (eVar 2) (eFn c__law_joined (aCons (eVar 1) (aCons (eVar 2) (aNil))))) (sNil))) (sSeq (sFor (iArgs rng1 (aCons (eC (.int 8)) (aNil))) (.nm 4) (sSeq (sTg (.tup [.nm 5, .nm 6]) (eFn c__law_marks (aCons (eVar 1) (aNil)))) (sSeq (sSet 7 (eFn c__law_truths (aCons (eVar 2) (aCons (eVar 5) (aCons (eVar 6) (aNil)))))) (sSeq (sIf (tOfE (eBin cNe (eCall bRepr (aCons (eFz (fLc (iVal (pVar 2)) [8, 9] (.tup [.nm 8, .nm 9]) (tYs) (eCo [("Rule", c_Rule___call__), ("Both", c_Rule___call__), ("Either", c_Rule___call__), ("Other", c_Rule___call__), ("Always", c_Rule___call__), ("Kinds", c_Rule___call__), ("Between", c_Rule___call__), ("Sizes", c_Rule___call__), ("SamePlace", c_Rule___call__), ("Written", c_Rule___call__)] (eVar 8) (aCons (eVar 5) (aCons (eVar 6) (aNil)))))) (aNil))) (eCall bRepr (aCons (pVar 7) (aNil))))) (sSeq (sRet (eC (.bl false))) (sNil)) (sNil)) (sSeq (sIf (tOfE (eBin cNe (eCall bRepr (aCons (eFz (fLc (iVal (pVar 2)) [8, 9] (.tup [.nm 8, .nm 9]) (tYs) (eMt "allows" [("Rule", c_Rule_allows), ("Both", (c_Both_allows 40)), ("Either", (c_Either_allows 40)), ("Other", (c_Other_allows 40)), ("Always", c_Always_allows), ("Kinds", c_Kinds_allows), ("Between", c_Between_allows), ("Sizes", c_Sizes_allows), ("SamePlace", c_SamePlace_allows), ("Written", c_Written_allows)] (eVar 8) (aCons (eVar 5) (aCons (eVar 6) (aNil)))))) (aNil))) (eCall bRepr (aCons (pVar 7) (aNil))))) (sSeq (sRet (eC (.bl false))) (sNil)) (sNil)) (sSeq (sPar2 10 11 (aCons (eBin oIx (eBin oIx (pVar 2) (eNeg (eC (.int 1)))) (eC (.int 0))) (aCons (eBin oIx (eFn c__law_one (aCons (eVar 1) (aCons (eVar 2) (aNil)))) (eC (.int 0))) (aNil)))) (sSeq (sSet 12 (eFz (fLst (aCons (eTup (aCons (eInv ["Rule", "Both", "Either", "Other", "Always", "Kinds", "Between", "Sizes", "SamePlace", "Written"] c_Rule___invert__ (eInv ["Rule", "Both", "Either", "Other", "Always", "Kinds", "Between", "Sizes", "SamePlace", "Written"] c_Rule___invert__ (eVar 10))) (aCons (eVar 10) (aNil)))) (aCons (eTup (aCons (eOpI ["Rule", "Both", "Either", "Other", "Always", "Kinds", "Between", "Sizes", "SamePlace", "Written"] c_Rule___sub__ (eVar 10) (eVar 11)) (aCons (eOpI ["Rule", "Both", "Either", "Other", "Always", "Kinds", "Between", "Sizes", "SamePlace", "Written"] c_Rule___and__ (eVar 10) (eInv ["Rule", "Both", "Either", "Other", "Always", "Kinds", "Between", "Sizes", "SamePlace", "Written"] c_Rule___invert__ (eVar 11))) (aNil)))) (aCons (eTup (aCons (eInv ["Rule", "Both", "Either", "Other", "Always", "Kinds", "Between", "Sizes", "SamePlace", "Written"] c_Rule___invert__ (eOpI ["Rule", "Both", "Either", "Other", "Always", "Kinds", "Between", "Sizes", "SamePlace", "Written"] c_Rule___or__ (eVar 10) (eVar 11))) (aCons (eOpI ["Rule", "Both", "Either", "Other", "Always", "Kinds", "Between", "Sizes", "SamePlace", "Written"] c_Rule___and__ (eInv ["Rule", "Both", "Either", "Other", "Always", "Kinds", "Between", "Sizes", "SamePlace", "Written"] c_Rule___invert__ (eVar 10)) (eInv ["Rule", "Both", "Either", "Other", "Always", "Kinds", "Between", "Sizes", "SamePlace", "Written"] c_Rule___invert__ (eVar 11))) (aNil)))) (aCons (eTup (aCons (eOpI ["Rule", "Both", "Either", "Other", "Always", "Kinds", "Between", "Sizes", "SamePlace", "Written"] c_Rule___or__ (eVar 10) (eVar 11)) (aCons (eOpI ["Rule", "Both", "Either", "Other", "Always", "Kinds", "Between", "Sizes", "SamePlace", "Written"] c_Rule___or__ (eVar 11) (eVar 10)) (aNil)))) (aCons (eTup (aCons (eOpI ["Rule", "Both", "Either", "Other", "Always", "Kinds", "Between", "Sizes", "SamePlace", "Written"] c_Rule___and__ (eVar 10) (eOpI ["Rule", "Both", "Either", "Other", "Always", "Kinds", "Between", "Sizes", "SamePlace", "Written"] c_Rule___or__ (eVar 10) (eVar 11))) (aCons (eVar 10) (aNil)))) (aNil))))))))) (sSeq (sIf (tNt (tTr (eCall bAll (aCons (eFz (fLc (iVal (pVar 12)) [13, 14] (.tup [.nm 13, .nm 14]) (tYs) (eFn c__law_same (aCons (eVar 13) (aCons (eVar 14) (aCons (eVar 5) (aCons (eVar 6) (aNil)))))))) (aNil))))) (sSeq (sRet (eC (.bl false))) (sNil)) (sNil)) (sNil))))))))) (sSeq (sRet (eC (.bl true))) (sNil)))))
noncomputable def c_law : Fn := fnSem 15 1 m_law
theorem u_law {x0 : D} {S : Sto} {P : D → Sto → Prop} (h : wps (m_law [.v x0, .un, .un, .un, .un, .un, .un, .un, .un, .un, .un, .un, .un, .un, .un] S) fun fl _ S1 => match fl with
    | .nx => P .non S1
    | .rt d => P d S1
    | _ => False) : wp (c_law [x0] S) P := q_fn rfl h
end Lw
set_option Elab.async false
set_option linter.all false
set_option maxRecDepth 100000
set_option maxHeartbeats 0
namespace Lw
open PySem PySem.Spec PyProof.Rows L2 TL Rf
structure Fc (P : Program) (w : World) (K : PySem.W.Frag) (mg : Str → Option Value) : Prop where
  d__law_deck : DefAt K mg "_law_deck" (top 12)
  d__law_draw : DefAt K mg "_law_draw" (top 13)
  d__law_one : DefAt K mg "_law_one" (top 14)
  d_Kinds___init__ : MDef K "Kinds" "__init__" "Kinds.__init__" (mthOf 0 (top 6))
  d__law_kinds : DefAt K mg "_law_kinds" (top 16)
  d_Between___init__ : MDef K "Between" "__init__" "Between.__init__" (mthOf 0 (top 7))
  d_Sizes___init__ : MDef K "Sizes" "__init__" "Sizes.__init__" (mthOf 0 (top 8))
  d__law_basic : DefAt K mg "_law_basic" (top 17)
  d__law_marks : DefAt K mg "_law_marks" (top 15)
  d__law_lets : DefAt K mg "_law_lets" (top 18)
  d__law_truths : DefAt K mg "_law_truths" (top 20)
  d_Other___init__ : MDef K "Other" "__init__" "Other.__init__" (mthOf 0 (top 4))
  d_Rule___invert__ : MDef K "Rule" "__invert__" "Rule.__invert__" (mthOf 5 (top 1))
  d_Both___init__ : MDef K "Both" "__init__" "Both.__init__" (mthOf 0 (top 2))
  d_Rule___and__ : MDef K "Rule" "__and__" "Rule.__and__" (mthOf 2 (top 1))
  d_Either___init__ : MDef K "Either" "__init__" "Either.__init__" (mthOf 0 (top 3))
  d_Rule___or__ : MDef K "Rule" "__or__" "Rule.__or__" (mthOf 3 (top 1))
  d_Rule___sub__ : MDef K "Rule" "__sub__" "Rule.__sub__" (mthOf 4 (top 1))
  d__law_joined : DefAt K mg "_law_joined" (top 19)
  d_Rule_allows : MDef K "Rule" "allows" "Rule.allows" (mthOf 0 (top 1))
  d_Always_allows : MDef K "Always" "allows" "Always.allows" (mthOf 0 (top 5))
  d_Kinds_allows : MDef K "Kinds" "allows" "Kinds.allows" (mthOf 1 (top 6))
  d_Between_allows : MDef K "Between" "allows" "Between.allows" (mthOf 1 (top 7))
  d_Sizes_allows : MDef K "Sizes" "allows" "Sizes.allows" (mthOf 1 (top 8))
  d_SamePlace_allows : MDef K "SamePlace" "allows" "SamePlace.allows" (mthOf 0 (top 9))
  d_Written_allows : MDef K "Written" "allows" "Written.allows" (mthOf 0 (top 10))
  d_Both_allows : MDef K "Both" "allows" "Both.allows" (mthOf 1 (top 2))
  d_Either_allows : MDef K "Either" "allows" "Either.allows" (mthOf 1 (top 3))
  d_Other_allows : MDef K "Other" "allows" "Other.allows" (mthOf 1 (top 4))
  d_Rule___call__ : MDef K "Rule" "__call__" "Rule.__call__" (mthOf 1 (top 1))
  d__law_same : DefAt K mg "_law_same" (top 21)
  d_law : DefAt K mg "law" (top 22)
  fl_first_rule : FldK K mg ["Rule", "Both", "Either", "Other", "Always", "Kinds", "Between", "Sizes", "SamePlace", "Written"] "first_rule"
  fl_high : FldK K mg ["Rule", "Both", "Either", "Other", "Always", "Kinds", "Between", "Sizes", "SamePlace", "Written"] "high"
  fl_kinds : FldK K mg ["Rule", "Both", "Either", "Other", "Always", "Kinds", "Between", "Sizes", "SamePlace", "Written"] "kinds"
  fl_low : FldK K mg ["Rule", "Both", "Either", "Other", "Always", "Kinds", "Between", "Sizes", "SamePlace", "Written"] "low"
  fl_most : FldK K mg ["Rule", "Both", "Either", "Other", "Always", "Kinds", "Between", "Sizes", "SamePlace", "Written"] "most"
  fl_second_rule : FldK K mg ["Rule", "Both", "Either", "Other", "Always", "Kinds", "Between", "Sizes", "SamePlace", "Written"] "second_rule"
  fl_turned_rule : FldK K mg ["Rule", "Both", "Either", "Other", "Always", "Kinds", "Between", "Sizes", "SamePlace", "Written"] "turned_rule"
  mf_Always_allows : MthF K mg "Always" "Always" "allows"
  mf_Between_allows : MthF K mg "Between" "Between" "allows"
  mf_Both_allows : MthF K mg "Both" "Both" "allows"
  mf_Either_allows : MthF K mg "Either" "Either" "allows"
  mf_Kinds_allows : MthF K mg "Kinds" "Kinds" "allows"
  mf_Other_allows : MthF K mg "Other" "Other" "allows"
  mf_Rule_allows : MthF K mg "Rule" "Rule" "allows"
  mf_SamePlace_allows : MthF K mg "SamePlace" "SamePlace" "allows"
  mf_Sizes_allows : MthF K mg "Sizes" "Sizes" "allows"
  mf_Written_allows : MthF K mg "Written" "Written" "allows"
  mk_Between : MkF K mg "Between" "Between"
  mk_Both : MkF K mg "Both" "Both"
  mk_Either : MkF K mg "Either" "Either"
  mk_Kinds : MkF K mg "Kinds" "Kinds"
  mk_Other : MkF K mg "Other" "Other"
  mk_Sizes : MkF K mg "Sizes" "Sizes"
  mk0_Always : Mk0F K mg "Always"
  mk0_Rule : Mk0F K mg "Rule"
  mk0_SamePlace : Mk0F K mg "SamePlace"
  mk0_Written : Mk0F K mg "Written"
  cal_Always : CalF K mg "Always" "Rule"
  cal_Between : CalF K mg "Between" "Rule"
  cal_Both : CalF K mg "Both" "Rule"
  cal_Either : CalF K mg "Either" "Rule"
  cal_Kinds : CalF K mg "Kinds" "Rule"
  cal_Other : CalF K mg "Other" "Rule"
  cal_Rule : CalF K mg "Rule" "Rule"
  cal_SamePlace : CalF K mg "SamePlace" "Rule"
  cal_Sizes : CalF K mg "Sizes" "Rule"
  cal_Written : CalF K mg "Written" "Rule"
  b_abs : mg "abs" = none
  b_all : mg "all" = none
  b_int : mg "int" = none
  b_len : mg "len" = none
  b_max : mg "max" = none
  b_range : mg "range" = none
  b_repr : mg "repr" = none
  op_and : OpF K mg ["Rule", "Both", "Either", "Other", "Always", "Kinds", "Between", "Sizes", "SamePlace", "Written"] "and" (He.ma K (He.ga K "Rule") "__and__")
  op_invert : UnF K mg ["Rule", "Both", "Either", "Other", "Always", "Kinds", "Between", "Sizes", "SamePlace", "Written"] (He.ma K (He.ga K "Rule") "__invert__")
  op_or : OpF K mg ["Rule", "Both", "Either", "Other", "Always", "Kinds", "Between", "Sizes", "SamePlace", "Written"] "or" (He.ma K (He.ga K "Rule") "__or__")
  op_sub : OpF K mg ["Rule", "Both", "Either", "Other", "Always", "Kinds", "Between", "Sizes", "SamePlace", "Written"] "sub" (He.ma K (He.ga K "Rule") "__sub__")
section
variable {P : Program} {w : World} {K : PySem.W.Frag} {mg : Str → Option Value} {base : Heap}
theorem sc__law_deck : FnScope ["_law_script", "_law_cell"] ["_law_script"] (defScope (top 12)) := ⟨rfl, rfl, rfl, by decide +kernel, rfl, by decide +kernel, by decide +kernel⟩
theorem ok__law_deck (h : Fc P w K mg) : FnIn P w K mg base "_law_deck" 1 c__law_deck := by
    obtain ⟨f, fd, F, hm⟩ := h.d__law_deck
    refine ⟨f, fd, _, rf_fn (n := 2) (np := 1) (j := 0) (m := m_deck) F sc__law_deck rfl rfl (fun cdv A outer s H E hr tk pss => ?_), hm, F.kp, F.bindsN (fun _ _ _ _ _ _ us hl => match us, hl with | [_], _ => rfl)⟩
    have sc := sc__law_deck
    exact (sb_cons (ss_ret (se_nw (sf_lst (sae_cons (se_nw (sf_lc rfl sc.nd (si_val md_e (SE.pk (se_sl (sp_var (pv 0)) so_none (so_some se_int)))) (blkOk_by (own := [("_law_cell", 1)]) (by rfl)) (fun _ _ _ _ _ => (sg_name (pg_name sc.nd rfl (by first | exact Or.inl rfl | exact Or.inr rfl)))) (fun _ _ _ _ _ => sts_nil) (fun _ _ _ _ _ => (se_callB bAbs_ok (by rfl) h.b_abs (by rfl) (sa_cons (sp_var (pv 1)) sa_nil rfl) rfl (by decide) (by decide))) (by decide) rfl)) (sae_cons se_int sae_nil rfl) rfl)))) sb_nil)
theorem sc__law_draw : FnScope ["_law_deck_here", "_law_many", "_law_place", "_law_cell", "_law_mixed"] ["_law_deck_here", "_law_many"] (defScope (top 13)) := ⟨rfl, rfl, rfl, by decide +kernel, rfl, by decide +kernel, by decide +kernel⟩
theorem ok__law_draw (h : Fc P w K mg) : FnIn P w K mg base "_law_draw" 1 c__law_draw := by
    obtain ⟨f, fd, F, hm⟩ := h.d__law_draw
    refine ⟨f, fd, _, rf_fn (n := 5) (np := 2) (j := 0) (m := m_draw1) F sc__law_draw rfl rfl (fun cdv A outer s H E hr tk pss => ?_), hm, F.kp, F.bindsN (fun _ _ _ _ _ _ us hl => match us, hl with | [_, _], _ => rfl)⟩
    have sc := sc__law_draw
    exact (sb_cons (ss_putO (se_var (pv 0)) se_int (se_bin oAdd_ok (SE.pk (se_ix (sp_var (pv 0)) (SE.pk se_int) rfl)) (SE.pk se_int)) rfl (fun _ => rfl)) (sb_cons (ss_set sc.nd rfl (by first | exact Or.inl rfl | exact Or.inr rfl) rfl (se_bin oMod_ok (SE.pk (se_callT bInt_ok (by rfl) h.b_int (by rfl) (sa_cons (SE.pk (se_ix (sp_var (pv 0)) (SE.pk se_int) rfl)) sa_nil rfl) rfl (by decide) (by decide))) (SE.pk (se_callB (bMax2_ok (by rfl)) (by rfl) h.b_max (by rfl) (sa_cons (SE.pk se_int) (sa_cons (SE.pk (se_callB bLen_ok (by rfl) h.b_len (by rfl) (sa_cons (SE.pk (se_ix (sp_var (pv 0)) (SE.pk se_int) rfl)) sa_nil rfl) rfl (by decide) (by decide))) sa_nil rfl) rfl) rfl (by decide) (by decide)))) rfl) (sb_cons (ss_set sc.nd rfl (by first | exact Or.inl rfl | exact Or.inr rfl) rfl (se_ix (SE.pk (se_bin oAdd_ok (SE.pk (se_ix (sp_var (pv 0)) (SE.pk se_int) rfl)) (SE.pk (se_fz (sf_lst (sae_cons se_int sae_nil rfl)))))) (sp_var (pv 2)) rfl) rfl) (sb_cons (ss_if (st_cmp cGe_ok (sp_var (pv 3)) (SE.pk (se_bin oPow_ok (SE.pk se_int) (SE.pk se_int))) rfl) (sb_cons (ss_putO (se_ix (sp_var (pv 0)) (SE.pk se_int) rfl) (se_var (pv 2)) (se_bin oFdiv_ok (sp_var (pv 3)) (sp_var (pv 1))) rfl (fun _ => rfl)) (sb_cons (ss_ret (se_bin oMod_ok (SE.pk (se_callT bInt_ok (by rfl) h.b_int (by rfl) (sa_cons (sp_var (pv 3)) sa_nil rfl) rfl (by decide) (by decide))) (sp_var (pv 1)))) sb_nil)) sb_nil) (sb_cons (ss_set sc.nd rfl (by first | exact Or.inl rfl | exact Or.inr rfl) rfl (se_bin oPow_ok (SE.pk (se_bin oAdd_ok (SE.pk (se_bin oAdd_ok (SE.pk (se_bin oMod_ok (SE.pk (se_callT bInt_ok (by rfl) h.b_int (by rfl) (sa_cons (sp_var (pv 3)) sa_nil rfl) rfl (by decide) (by decide))) (SE.pk se_int))) (SE.pk (se_bin oMul_ok (SE.pk se_int) (SE.pk (se_ix (sp_var (pv 0)) (SE.pk se_int) rfl)))))) (SE.pk se_int))) (SE.pk se_int)) rfl) (sb_cons (ss_ret (se_bin oMod_ok (SE.pk (se_callT bInt_ok (by rfl) h.b_int (by rfl) (sa_cons (SE.pk (se_bin oMod_ok (SE.pk (se_callT bInt_ok (by rfl) h.b_int (by rfl) (sa_cons (sp_var (pv 4)) sa_nil rfl) rfl (by decide) (by decide))) (SE.pk se_int))) sa_nil rfl) rfl (by decide) (by decide))) (sp_var (pv 1)))) sb_nil))))))
theorem sc__law_one : FnScope ["_law_deck_here", "_law_items"] ["_law_deck_here", "_law_items"] (defScope (top 14)) := ⟨rfl, rfl, rfl, by decide +kernel, rfl, by decide +kernel, by decide +kernel⟩
theorem ok__law_one (h : Fc P w K mg) : FnIn P w K mg base "_law_one" 2 c__law_one := by
    obtain ⟨f, fd, F, hm⟩ := h.d__law_one
    refine ⟨f, fd, _, rf_fn (n := 2) (np := 2) (j := 1) (m := m_one) F sc__law_one rfl rfl (fun cdv A outer s H E hr tk pss => ?_), hm, F.kp, F.bindsN (fun _ _ _ _ _ _ us hl => match us, hl with | [_, _], _ => rfl)⟩
    have sc := sc__law_one
    exact (sb_cons (ss_ret (se_ix (sp_var (pv 1)) (SE.pk (se_call (FnIn.at (ok__law_draw h) hr (by omega) rfl rfl rfl rfl rfl) (by rfl) tk (sae_cons (se_var (pv 0)) (sae_cons (se_callB bLen_ok (by rfl) h.b_len (by rfl) (sa_cons (sp_var (pv 1)) sa_nil rfl) rfl (by decide) (by decide)) sae_nil rfl) rfl) rfl (by decide))) rfl)) sb_nil)
theorem sc_Kinds___init__ : FnScope ["self", "kinds"] ["self", "kinds"] (defScope (mthOf 0 (top 6))) := ⟨rfl, rfl, rfl, by decide +kernel, rfl, by decide +kernel, by decide +kernel⟩
theorem ok_Kinds___init__ (h : Fc P w K mg) : IniS P w K mg base "Kinds" 1 c_Kinds___init__ := by
    obtain ⟨fd, F⟩ := h.d_Kinds___init__
    refine ⟨rf_fnS (n := 2) (j := 0) (m := m_Kinds___init__) F sc_Kinds___init__ rfl (fun _ _ _ _ _ _ us rest hl => match us, hl, rest with | [_], _, [] => rfl | [_], _, _ :: _ => rfl) (fun cdv A outer s H E hr tk pss => ?_)⟩
    have sc := sc_Kinds___init__
    exact (sb_cons (ss_fld h.fl_kinds (se_var (pv 0)) (se_var (pv 1)) rfl) sb_nil)
theorem sc__law_kinds : FnScope ["_law_texts"] ["_law_texts"] (defScope (top 16)) := ⟨rfl, rfl, rfl, by decide +kernel, rfl, by decide +kernel, by decide +kernel⟩
theorem ok__law_kinds (h : Fc P w K mg) : FnIn P w K mg base "_law_kinds" 3 c__law_kinds := by
    obtain ⟨f, fd, F, hm⟩ := h.d__law_kinds
    refine ⟨f, fd, _, rf_fn (n := 1) (np := 1) (j := 2) (m := m__law_kinds) F sc__law_kinds rfl rfl (fun cdv A outer s H E hr tk pss => ?_), hm, F.kp, F.bindsN (fun _ _ _ _ _ _ us hl => match us, hl with | [_], _ => rfl)⟩
    have sc := sc__law_kinds
    exact (sb_cons (ss_if (st_cmp (cEq_ok hr.units) (SE.pk (se_callB bLen_ok (by rfl) h.b_len (by rfl) (sa_cons (sp_var (pv 0)) sa_nil rfl) rfl (by decide) (by decide))) (SE.pk se_int) rfl) (sb_cons (ss_ret (se_makeS0 (IniS.mkC (ok_Kinds___init__ h) h.mk_Kinds hr (by omega) rfl rfl rfl rfl rfl) (by rfl) (by decide))) sb_nil) sb_nil) (sb_cons (ss_if (st_cmp (cEq_ok hr.units) (SE.pk (se_callB bLen_ok (by rfl) h.b_len (by rfl) (sa_cons (sp_var (pv 0)) sa_nil rfl) rfl (by decide) (by decide))) (SE.pk se_int) rfl) (sb_cons (ss_ret (se_makeS (IniS.mkC (ok_Kinds___init__ h) h.mk_Kinds hr (by omega) rfl rfl rfl rfl rfl) (by rfl) (sae_cons (se_ix (sp_var (pv 0)) (SE.pk se_int) rfl) sae_nil rfl) rfl (by decide))) sb_nil) sb_nil) (sb_cons (ss_if (st_cmp (cEq_ok hr.units) (SE.pk (se_callB bLen_ok (by rfl) h.b_len (by rfl) (sa_cons (sp_var (pv 0)) sa_nil rfl) rfl (by decide) (by decide))) (SE.pk se_int) rfl) (sb_cons (ss_ret (se_makeS (IniS.mkC (ok_Kinds___init__ h) h.mk_Kinds hr (by omega) rfl rfl rfl rfl rfl) (by rfl) (sae_cons (se_ix (sp_var (pv 0)) (SE.pk se_int) rfl) (sae_cons (se_ix (sp_var (pv 0)) (SE.pk se_int) rfl) sae_nil rfl) rfl) rfl (by decide))) sb_nil) sb_nil) (sb_cons (ss_ret (se_makeS (IniS.mkC (ok_Kinds___init__ h) h.mk_Kinds hr (by omega) rfl rfl rfl rfl rfl) (by rfl) (sae_cons (se_ix (sp_var (pv 0)) (SE.pk se_int) rfl) (sae_cons (se_ix (sp_var (pv 0)) (SE.pk se_int) rfl) (sae_cons (se_ix (sp_var (pv 0)) (SE.pk se_int) rfl) sae_nil rfl) rfl) rfl) rfl (by decide))) sb_nil))))
theorem sc_Between___init__ : FnScope ["self", "low", "high"] ["self", "low", "high"] (defScope (mthOf 0 (top 7))) := ⟨rfl, rfl, rfl, by decide +kernel, rfl, by decide +kernel, by decide +kernel⟩
theorem ok_Between___init__ (h : Fc P w K mg) : MthIn P w K mg base "Between" "__init__" 1 c_Between___init__ := by
    obtain ⟨fd, F⟩ := h.d_Between___init__
    refine ⟨⟨fd, _, rf_fn (n := 3) (np := 3) (j := 0) (m := m_Between___init__) F sc_Between___init__ rfl rfl (fun cdv A outer s H E hr tk pss => ?_), F.bindsN (fun _ _ _ _ _ _ us hl => match us, hl with | [_, _, _], _ => rfl)⟩⟩
    have sc := sc_Between___init__
    exact (sb_cons (ss_fld h.fl_low (se_var (pv 0)) (se_var (pv 1)) rfl) (sb_cons (ss_fld h.fl_high (se_var (pv 0)) (se_var (pv 2)) rfl) sb_nil))
theorem sc_Sizes___init__ : FnScope ["self", "most"] ["self", "most"] (defScope (mthOf 0 (top 8))) := ⟨rfl, rfl, rfl, by decide +kernel, rfl, by decide +kernel, by decide +kernel⟩
theorem ok_Sizes___init__ (h : Fc P w K mg) : MthIn P w K mg base "Sizes" "__init__" 1 c_Sizes___init__ := by
    obtain ⟨fd, F⟩ := h.d_Sizes___init__
    refine ⟨⟨fd, _, rf_fn (n := 2) (np := 2) (j := 0) (m := m_Sizes___init__) F sc_Sizes___init__ rfl rfl (fun cdv A outer s H E hr tk pss => ?_), F.bindsN (fun _ _ _ _ _ _ us hl => match us, hl with | [_, _], _ => rfl)⟩⟩
    have sc := sc_Sizes___init__
    exact (sb_cons (ss_fld h.fl_most (se_var (pv 0)) (se_var (pv 1)) rfl) sb_nil)
theorem sc__law_basic : FnScope ["_law_deck_here", "_law_kind", "_law_numbers", "_law_texts", "_law_some", "_law_k", "_law_low", "_law_high", "_law_most"] ["_law_deck_here"] (defScope (top 17)) := ⟨rfl, rfl, rfl, by decide +kernel, rfl, by decide +kernel, by decide +kernel⟩
theorem ok__law_basic (h : Fc P w K mg) : FnIn P w K mg base "_law_basic" 4 c__law_basic := by
    obtain ⟨f, fd, F, hm⟩ := h.d__law_basic
    refine ⟨f, fd, _, rf_fn (n := 9) (np := 1) (j := 3) (m := m__law_basic) F sc__law_basic rfl rfl (fun cdv A outer s H E hr tk pss => ?_), hm, F.kp, F.bindsN (fun _ _ _ _ _ _ us hl => match us, hl with | [_], _ => rfl)⟩
    have sc := sc__law_basic
    exact (sb_cons (ss_set sc.nd rfl (by first | exact Or.inl rfl | exact Or.inr rfl) rfl (se_call (FnIn.at (ok__law_draw h) hr (by omega) rfl rfl rfl rfl rfl) (by rfl) tk (sae_cons (se_var (pv 0)) (sae_cons se_int sae_nil rfl) rfl) rfl (by decide)) rfl) (sb_cons (ss_set sc.nd rfl (by first | exact Or.inl rfl | exact Or.inr rfl) rfl (se_fz (sf_lst (sae_cons se_int (sae_cons se_int (sae_cons (se_neg se_int) (sae_cons se_int (sae_cons (se_bin oPow_ok (SE.pk se_int) (SE.pk se_int)) (sae_cons (se_neg (se_bin oPow_ok (SE.pk se_int) (SE.pk se_int))) (sae_cons (se_call (FnIn.at (ok__law_draw h) hr (by omega) rfl rfl rfl rfl rfl) (by rfl) tk (sae_cons (se_var (pv 0)) (sae_cons se_int sae_nil rfl) rfl) rfl (by decide)) sae_nil rfl) rfl) rfl) rfl) rfl) rfl) rfl))) rfl) (sb_cons (ss_set sc.nd rfl (by first | exact Or.inl rfl | exact Or.inr rfl) rfl (se_fz (sf_lst (sae_cons (se_str (l := [110, 117, 109, 98, 101, 114]) (by decide +kernel)) (sae_cons (se_str (l := [111, 100, 100]) (by decide +kernel)) (sae_cons (se_str (l := [119, 111, 114, 100]) (by decide +kernel)) (sae_cons (se_str (l := [116, 117, 112, 108, 101]) (by decide +kernel)) (sae_cons (se_str (l := [114, 111, 119]) (by decide +kernel)) (sae_cons (se_str (l := []) (by decide +kernel)) sae_nil rfl) rfl) rfl) rfl) rfl) rfl))) rfl) (sb_cons (ss_if (st_cmp (cEq_ok hr.units) (sp_var (pv 1)) (SE.pk se_int) rfl) (sb_cons (ss_ret (se_tup (sae_cons (se_mk0 (Mk0F.at h.mk0_Rule rfl rfl) (by rfl) (by decide)) (sae_cons (se_tup (sae_cons (se_str (l := [110, 101, 118, 101, 114]) (by decide +kernel)) (sae_cons se_non (sae_cons se_non sae_nil rfl) rfl) rfl)) sae_nil rfl) rfl))) sb_nil) sb_nil) (sb_cons (ss_if (st_cmp (cEq_ok hr.units) (sp_var (pv 1)) (SE.pk se_int) rfl) (sb_cons (ss_ret (se_tup (sae_cons (se_mk0 (Mk0F.at h.mk0_Always rfl rfl) (by rfl) (by decide)) (sae_cons (se_tup (sae_cons (se_str (l := [97, 108, 119, 97, 121, 115]) (by decide +kernel)) (sae_cons se_non (sae_cons se_non sae_nil rfl) rfl) rfl)) sae_nil rfl) rfl))) sb_nil) sb_nil) (sb_cons (ss_if (st_cmp cLt_ok (sp_var (pv 1)) (SE.pk se_int) rfl) (sb_cons (by first | exact ss_setLc (ps_lc rfl sc.nd rfl rfl rfl rfl rfl (si_rng1 md_e (by rfl) h.b_range (SA.q (sa_cons (SE.pk (se_call (FnIn.at (ok__law_draw h) hr (by omega) rfl rfl rfl rfl rfl) (by rfl) tk (sae_cons (se_var (pv 0)) (sae_cons se_int sae_nil rfl) rfl) rfl (by decide))) sa_nil rfl)) rfl) (blkOk_by (own := [("_law_k", 5)]) (by rfl)) (fun _ _ _ _ _ => (sg_name (pg_name sc.nd rfl (by first | exact Or.inl rfl | exact Or.inr rfl)))) (fun _ _ _ _ _ => sts_nil) (fun _ _ _ _ _ => (se_call (FnIn.at (ok__law_one h) hr (by omega) rfl rfl rfl rfl rfl) (by rfl) takes_no (sae_cons (se_var (pv 0)) (sae_cons (se_var (pv 3)) sae_nil rfl) rfl) rfl (by decide))) (by decide) rfl) | exact ss_setS sc.nd rfl (by first | exact Or.inl rfl | exact Or.inr rfl) rfl (se_fz (sf_lc rfl sc.nd (si_rng1 md_e (by rfl) h.b_range (SA.q (sa_cons (SE.pk (se_call (FnIn.at (ok__law_draw h) hr (by omega) rfl rfl rfl rfl rfl) (by rfl) tk (sae_cons (se_var (pv 0)) (sae_cons se_int sae_nil rfl) rfl) rfl (by decide))) sa_nil rfl)) rfl) (blkOk_by (own := [("_law_k", 5)]) (by rfl)) (fun _ _ _ _ _ => (sg_name (pg_name sc.nd rfl (by first | exact Or.inl rfl | exact Or.inr rfl)))) (fun _ _ _ _ _ => sts_nil) (fun _ _ _ _ _ => (se_call (FnIn.at (ok__law_one h) hr (by omega) rfl rfl rfl rfl rfl) (by rfl) takes_no (sae_cons (se_var (pv 0)) (sae_cons (se_var (pv 3)) sae_nil rfl) rfl) rfl (by decide))) (by decide) rfl)) rfl) (sb_cons (ss_ret (se_tup (sae_cons (se_call (FnIn.at (ok__law_kinds h) hr (by omega) rfl rfl rfl rfl rfl) (by rfl) tk (sae_cons (se_var (pv 4)) sae_nil rfl) rfl (by decide)) (sae_cons (se_tup (sae_cons (se_str (l := [107, 105, 110, 100, 115]) (by decide +kernel)) (sae_cons (se_var (pv 4)) (sae_cons se_non sae_nil rfl) rfl) rfl)) sae_nil rfl) rfl))) sb_nil)) sb_nil) (sb_cons (ss_if (st_cmp cLt_ok (sp_var (pv 1)) (SE.pk se_int) rfl) (sb_cons (ss_par2 (i := 6) (j := 7) rfl sc.nd rfl rfl (by decide) rfl rfl (sae_cons (se_call (FnIn.at (ok__law_one h) hr (by omega) rfl rfl rfl rfl rfl) (by rfl) tk (sae_cons (se_var (pv 0)) (sae_cons (se_var (pv 2)) sae_nil rfl) rfl) rfl (by decide)) (sae_cons (se_call (FnIn.at (ok__law_one h) hr (by omega) rfl rfl rfl rfl rfl) (by rfl) tk (sae_cons (se_var (pv 0)) (sae_cons (se_var (pv 2)) sae_nil rfl) rfl) rfl (by decide)) sae_nil rfl) rfl) rfl) (sb_cons (ss_ret (se_tup (sae_cons (se_make (MthIn.mkC (ok_Between___init__ h) h.mk_Between hr (by omega) rfl rfl rfl rfl rfl) (by rfl) (sae_cons (se_var (pv 6)) (sae_cons (se_var (pv 7)) sae_nil rfl) rfl) rfl (by decide)) (sae_cons (se_tup (sae_cons (se_str (l := [98, 101, 116, 119, 101, 101, 110]) (by decide +kernel)) (sae_cons (se_var (pv 6)) (sae_cons (se_var (pv 7)) sae_nil rfl) rfl) rfl)) sae_nil rfl) rfl))) sb_nil)) sb_nil) (sb_cons (ss_if (st_cmp (cEq_ok hr.units) (sp_var (pv 1)) (SE.pk se_int) rfl) (sb_cons (ss_set sc.nd rfl (by first | exact Or.inl rfl | exact Or.inr rfl) rfl (se_call (FnIn.at (ok__law_one h) hr (by omega) rfl rfl rfl rfl rfl) (by rfl) tk (sae_cons (se_var (pv 0)) (sae_cons (se_fz (sf_lst (sae_cons se_int (sae_cons se_int (sae_cons se_int (sae_cons se_int (sae_cons se_int (sae_cons (se_neg se_int) (sae_cons (se_bin oPow_ok (SE.pk se_int) (SE.pk se_int)) sae_nil rfl) rfl) rfl) rfl) rfl) rfl) rfl))) sae_nil rfl) rfl) rfl (by decide)) rfl) (sb_cons (ss_ret (se_tup (sae_cons (se_make (MthIn.mkC (ok_Sizes___init__ h) h.mk_Sizes hr (by omega) rfl rfl rfl rfl rfl) (by rfl) (sae_cons (se_var (pv 8)) sae_nil rfl) rfl (by decide)) (sae_cons (se_tup (sae_cons (se_str (l := [115, 105, 122, 101, 115]) (by decide +kernel)) (sae_cons (se_var (pv 8)) (sae_cons se_non sae_nil rfl) rfl) rfl)) sae_nil rfl) rfl))) sb_nil)) sb_nil) (sb_cons (ss_if (st_cmp (cEq_ok hr.units) (sp_var (pv 1)) (SE.pk se_int) rfl) (sb_cons (ss_ret (se_tup (sae_cons (se_mk0 (Mk0F.at h.mk0_SamePlace rfl rfl) (by rfl) (by decide)) (sae_cons (se_tup (sae_cons (se_str (l := [115, 97, 109, 101]) (by decide +kernel)) (sae_cons se_non (sae_cons se_non sae_nil rfl) rfl) rfl)) sae_nil rfl) rfl))) sb_nil) sb_nil) (sb_cons (ss_ret (se_tup (sae_cons (se_mk0 (Mk0F.at h.mk0_Written rfl rfl) (by rfl) (by decide)) (sae_cons (se_tup (sae_cons (se_str (l := [119, 114, 105, 116, 116, 101, 110]) (by decide +kernel)) (sae_cons se_non (sae_cons se_non sae_nil rfl) rfl) rfl)) sae_nil rfl) rfl))) sb_nil))))))))))
theorem sc__law_marks : FnScope ["_law_deck_here", "_law_kind", "_law_number", "_law_size", "_law_places", "_law_one_here", "_law_other"] ["_law_deck_here"] (defScope (top 15)) := ⟨rfl, rfl, rfl, by decide +kernel, rfl, by decide +kernel, by decide +kernel⟩
theorem ok__law_marks (h : Fc P w K mg) : FnIn P w K mg base "_law_marks" 3 c__law_marks := by
    obtain ⟨f, fd, F, hm⟩ := h.d__law_marks
    refine ⟨f, fd, _, rf_fn (n := 7) (np := 1) (j := 2) (m := m__law_marks) F sc__law_marks rfl rfl (fun cdv A outer s H E hr tk pss => ?_), hm, F.kp, F.bindsN (fun _ _ _ _ _ _ us hl => match us, hl with | [_], _ => rfl)⟩
    have sc := sc__law_marks
    exact (sb_cons (ss_set sc.nd rfl (by first | exact Or.inl rfl | exact Or.inr rfl) rfl (se_call (FnIn.at (ok__law_one h) hr (by omega) rfl rfl rfl rfl rfl) (by rfl) tk (sae_cons (se_var (pv 0)) (sae_cons (se_fz (sf_lst (sae_cons (se_str (l := [110, 117, 109, 98, 101, 114]) (by decide +kernel)) (sae_cons (se_str (l := [111, 100, 100]) (by decide +kernel)) (sae_cons (se_str (l := [119, 111, 114, 100]) (by decide +kernel)) (sae_cons (se_str (l := [116, 117, 112, 108, 101]) (by decide +kernel)) sae_nil rfl) rfl) rfl) rfl))) sae_nil rfl) rfl) rfl (by decide)) rfl) (sb_cons (ss_set sc.nd rfl (by first | exact Or.inl rfl | exact Or.inr rfl) rfl se_non rfl) (sb_cons (ss_if (st_cmp (cEq_ok hr.units) (sp_var (pv 1)) (SE.pk (se_str (l := [110, 117, 109, 98, 101, 114]) (by decide +kernel))) rfl) (sb_cons (ss_set sc.nd rfl (by first | exact Or.inl rfl | exact Or.inr rfl) rfl (se_call (FnIn.at (ok__law_one h) hr (by omega) rfl rfl rfl rfl rfl) (by rfl) tk (sae_cons (se_var (pv 0)) (sae_cons (se_fz (sf_lst (sae_cons se_int (sae_cons se_int (sae_cons (se_neg se_int) (sae_cons se_int (sae_cons se_int (sae_cons (se_neg se_int) (sae_cons (se_bin oPow_ok (SE.pk se_int) (SE.pk se_int)) (sae_cons (se_neg (se_bin oPow_ok (SE.pk se_int) (SE.pk se_int))) (sae_cons (se_call (FnIn.at (ok__law_draw h) hr (by omega) rfl rfl rfl rfl rfl) (by rfl) tk (sae_cons (se_var (pv 0)) (sae_cons se_int sae_nil rfl) rfl) rfl (by decide)) sae_nil rfl) rfl) rfl) rfl) rfl) rfl) rfl) rfl) rfl))) sae_nil rfl) rfl) rfl (by decide)) rfl) sb_nil) sb_nil) (sb_cons (ss_set sc.nd rfl (by first | exact Or.inl rfl | exact Or.inr rfl) rfl (se_if (st_cmp (cEq_ok hr.units) (sp_var (pv 1)) (SE.pk (se_str (l := [116, 117, 112, 108, 101]) (by decide +kernel))) rfl) (se_bin oAdd_ok (SE.pk se_int) (SE.pk (se_call (FnIn.at (ok__law_draw h) hr (by omega) rfl rfl rfl rfl rfl) (by rfl) tk (sae_cons (se_var (pv 0)) (sae_cons se_int sae_nil rfl) rfl) rfl (by decide)))) se_int) rfl) (sb_cons (ss_own sc.nd rfl (by first | exact Or.inl rfl | exact Or.inr rfl) rfl (sf_lst (sae_cons se_int (sae_cons se_int (sae_cons (se_call (FnIn.at (ok__law_draw h) hr (by omega) rfl rfl rfl rfl rfl) (by rfl) tk (sae_cons (se_var (pv 0)) (sae_cons se_int sae_nil rfl) rfl) rfl (by decide)) (sae_cons se_int sae_nil rfl) rfl) rfl) rfl)) rfl) (sb_cons (ss_if (st_cmp (cEq_ok hr.units) (sp_var (pv 1)) (SE.pk (se_str (l := [119, 111, 114, 100]) (by decide +kernel))) rfl) (sb_cons (ss_ext (pv 4) (se_fz (sf_lst (sae_cons se_non (sae_cons se_non sae_nil rfl) rfl))) rfl rfl) sb_nil) sb_nil) (sb_cons (ss_frz (i := 4) (ss_par2 (i := 5) (j := 6) rfl sc.nd rfl rfl (by decide) rfl rfl (sae_cons (se_call (FnIn.at (ok__law_one h) hr (by omega) rfl rfl rfl rfl rfl) (by rfl) tk (sae_cons (se_var (pv 0)) (sae_cons (se_var (pv 4)) sae_nil rfl) rfl) rfl (by decide)) (sae_cons (se_call (FnIn.at (ok__law_one h) hr (by omega) rfl rfl rfl rfl rfl) (by rfl) tk (sae_cons (se_var (pv 0)) (sae_cons (se_var (pv 4)) sae_nil rfl) rfl) rfl (by decide)) sae_nil rfl) rfl) rfl)) (sb_cons (ss_ret (se_tup (sae_cons (se_tup (sae_cons (se_var (pv 1)) (sae_cons (se_var (pv 5)) (sae_cons (se_var (pv 3)) (sae_cons (se_var (pv 2)) sae_nil rfl) rfl) rfl) rfl)) (sae_cons (se_tup (sae_cons (se_var (pv 1)) (sae_cons (se_var (pv 6)) (sae_cons (se_var (pv 3)) (sae_cons (se_var (pv 2)) sae_nil rfl) rfl) rfl) rfl)) sae_nil rfl) rfl))) sb_nil))))))))
theorem sc__law_lets : FnScope ["_law_told", "_law_making", "_law_twin", "_law_word", "_law_one_here", "_law_other"] ["_law_told", "_law_making", "_law_twin"] (defScope (top 18)) := ⟨rfl, rfl, rfl, by decide +kernel, rfl, by decide +kernel, by decide +kernel⟩
theorem ok__law_lets (h : Fc P w K mg) : FnIn P w K mg base "_law_lets" 1 c__law_lets := by
    obtain ⟨f, fd, F, hm⟩ := h.d__law_lets
    refine ⟨f, fd, _, rf_fn (n := 6) (np := 3) (j := 0) (m := m__law_lets) F sc__law_lets rfl rfl (fun cdv A outer s H E hr tk pss => ?_), hm, F.kp, F.bindsN (fun _ _ _ _ _ _ us hl => match us, hl with | [_, _, _], _ => rfl)⟩
    have sc := sc__law_lets
    exact (sb_cons (ss_tg rfl rfl rfl (se_var (pv 0)) (sg_tup rfl (sgs_cons (sg_name (pg_name sc.nd rfl (by first | exact Or.inl rfl | exact Or.inr rfl))) (sgs_cons (sg_name (pg_name sc.nd rfl (by first | exact Or.inl rfl | exact Or.inr rfl))) (sgs_cons (sg_name (pg_name sc.nd rfl (by first | exact Or.inl rfl | exact Or.inr rfl))) sgs_nil rfl) rfl) rfl) rfl rfl)) (sb_cons (ss_if (st_cmp (cEq_ok hr.units) (sp_var (pv 3)) (SE.pk (se_str (l := [107, 105, 110, 100, 115]) (by decide +kernel))) rfl) (sb_cons (ss_ret (se_cmp cIn_ok (SE.pk (se_ix (sp_var (pv 1)) (SE.pk se_int) rfl)) (sp_var (pv 4)) rfl)) sb_nil) sb_nil) (sb_cons (ss_if (st_cmp (cEq_ok hr.units) (sp_var (pv 3)) (SE.pk (se_str (l := [98, 101, 116, 119, 101, 101, 110]) (by decide +kernel))) rfl) (sb_cons (ss_ret (se_and (se_cmp cIsNot_ok (SE.pk (se_ix (sp_var (pv 1)) (SE.pk se_int) rfl)) (SE.pk se_non) rfl) (se_and (se_cmp cLe_ok (sp_var (pv 4)) (SE.pk (se_ix (sp_var (pv 1)) (SE.pk se_int) rfl)) rfl) (se_one (se_cmp cLe_ok (SE.pk (se_ix (sp_var (pv 1)) (SE.pk se_int) rfl)) (sp_var (pv 5)) rfl))))) sb_nil) sb_nil) (sb_cons (ss_if (st_cmp (cEq_ok hr.units) (sp_var (pv 3)) (SE.pk (se_str (l := [115, 105, 122, 101, 115]) (by decide +kernel))) rfl) (sb_cons (ss_ret (se_cmp cLe_ok (SE.pk (se_ix (sp_var (pv 1)) (SE.pk se_int) rfl)) (sp_var (pv 4)) rfl)) sb_nil) sb_nil) (sb_cons (ss_if (st_cmp (cEq_ok hr.units) (sp_var (pv 3)) (SE.pk (se_str (l := [115, 97, 109, 101]) (by decide +kernel))) rfl) (sb_cons (ss_ret (se_and (se_cmp cIsNot_ok (SE.pk (se_ix (sp_var (pv 1)) (SE.pk se_int) rfl)) (SE.pk se_non) rfl) (se_and (se_cmp cIsNot_ok (SE.pk (se_ix (sp_var (pv 2)) (SE.pk se_int) rfl)) (SE.pk se_non) rfl) (se_one (se_cmp (cEq_ok hr.units) (SE.pk (se_ix (sp_var (pv 1)) (SE.pk se_int) rfl)) (SE.pk (se_ix (sp_var (pv 2)) (SE.pk se_int) rfl)) rfl))))) sb_nil) sb_nil) (sb_cons (ss_if (st_cmp (cEq_ok hr.units) (sp_var (pv 3)) (SE.pk (se_str (l := [119, 114, 105, 116, 116, 101, 110]) (by decide +kernel))) rfl) (sb_cons (ss_ret (se_and (se_cmp cIsNot_ok (SE.pk (se_ix (sp_var (pv 1)) (SE.pk se_int) rfl)) (SE.pk se_non) rfl) (se_one (se_cmp cIsNot_ok (SE.pk (se_ix (sp_var (pv 2)) (SE.pk se_int) rfl)) (SE.pk se_non) rfl)))) sb_nil) sb_nil) (sb_cons (ss_ret (se_cmp (cEq_ok hr.units) (sp_var (pv 3)) (SE.pk (se_str (l := [97, 108, 119, 97, 121, 115]) (by decide +kernel))) rfl)) sb_nil)))))))
theorem sc__law_truths : FnScope ["_law_rows", "_law_making", "_law_twin", "_law_found", "_law_rule", "_law_told", "_law_word", "_law_one_here", "_law_other"] ["_law_rows", "_law_making", "_law_twin"] (defScope (top 20)) := ⟨rfl, rfl, rfl, by decide +kernel, rfl, by decide +kernel, by decide +kernel⟩
theorem ok__law_truths (h : Fc P w K mg) : FnIn P w K mg base "_law_truths" 2 c__law_truths := by
    obtain ⟨f, fd, F, hm⟩ := h.d__law_truths
    refine ⟨f, fd, _, rf_fn (n := 9) (np := 3) (j := 1) (m := m__law_truths) F sc__law_truths rfl rfl (fun cdv A outer s H E hr tk pss => ?_), hm, F.kp, F.bindsN (fun _ _ _ _ _ _ us hl => match us, hl with | [_, _, _], _ => rfl)⟩
    have sc := sc__law_truths
    exact (sb_cons (ss_own sc.nd rfl (by first | exact Or.inl rfl | exact Or.inr rfl) rfl (sf_lst sae_nil) rfl) (sb_cons (ss_for pss rfl (si_val md_p (se_var (pv 0))) (sg_tup rfl (sgs_cons (sg_name (pg_name sc.nd rfl (by first | exact Or.inl rfl | exact Or.inr rfl))) (sgs_cons (sg_name (pg_name sc.nd rfl (by first | exact Or.inl rfl | exact Or.inr rfl))) sgs_nil rfl) rfl) rfl rfl) (sb_cons (ss_tg rfl rfl rfl (se_var (pv 5)) (sg_tup rfl (sgs_cons (sg_name (pg_name sc.nd rfl (by first | exact Or.inl rfl | exact Or.inr rfl))) (sgs_cons (sg_name (pg_name sc.nd rfl (by first | exact Or.inl rfl | exact Or.inr rfl))) (sgs_cons (sg_name (pg_name sc.nd rfl (by first | exact Or.inl rfl | exact Or.inr rfl))) sgs_nil rfl) rfl) rfl) rfl rfl)) (sb_cons (ss_if (st_cmp (cEq_ok hr.units) (sp_var (pv 6)) (SE.pk (se_str (l := [97, 110, 100]) (by decide +kernel))) rfl) (sb_cons (ss_app (pv 3) (se_and (se_ix (sp_var (pv 3)) (sp_var (pv 7)) rfl) (se_one (se_ix (sp_var (pv 3)) (sp_var (pv 8)) rfl))) rfl rfl) sb_nil) (sb_cons (ss_if (st_cmp (cEq_ok hr.units) (sp_var (pv 6)) (SE.pk (se_str (l := [111, 114]) (by decide +kernel))) rfl) (sb_cons (ss_app (pv 3) (se_or (se_ix (sp_var (pv 3)) (sp_var (pv 7)) rfl) (se_one (se_ix (sp_var (pv 3)) (sp_var (pv 8)) rfl))) rfl rfl) sb_nil) (sb_cons (ss_if (st_cmp (cEq_ok hr.units) (sp_var (pv 6)) (SE.pk (se_str (l := [108, 101, 115, 115]) (by decide +kernel))) rfl) (sb_cons (ss_app (pv 3) (se_and (se_ix (sp_var (pv 3)) (sp_var (pv 7)) rfl) (se_one (se_not (se_ix (sp_var (pv 3)) (sp_var (pv 8)) rfl)))) rfl rfl) sb_nil) (sb_cons (ss_if (st_cmp (cEq_ok hr.units) (sp_var (pv 6)) (SE.pk (se_str (l := [110, 111, 116]) (by decide +kernel))) rfl) (sb_cons (ss_app (pv 3) (se_not (se_ix (sp_var (pv 3)) (sp_var (pv 7)) rfl)) rfl rfl) sb_nil) (sb_cons (ss_app (pv 3) (se_call (FnIn.at (ok__law_lets h) hr (by omega) rfl rfl rfl rfl rfl) (by rfl) tk (sae_cons (se_var (pv 5)) (sae_cons (se_var (pv 1)) (sae_cons (se_var (pv 2)) sae_nil rfl) rfl) rfl) rfl (by decide)) rfl rfl) sb_nil)) sb_nil)) sb_nil)) sb_nil)) sb_nil)) rfl) (sb_cons (ss_frz (i := 3) (ss_ret (se_var (pv 3)))) sb_nil)))
theorem sc_Other___init__ : FnScope ["self", "turned_rule"] ["self", "turned_rule"] (defScope (mthOf 0 (top 4))) := ⟨rfl, rfl, rfl, by decide +kernel, rfl, by decide +kernel, by decide +kernel⟩
theorem ok_Other___init__ (h : Fc P w K mg) : MthIn P w K mg base "Other" "__init__" 1 c_Other___init__ := by
    obtain ⟨fd, F⟩ := h.d_Other___init__
    refine ⟨⟨fd, _, rf_fn (n := 2) (np := 2) (j := 0) (m := m_Other___init__) F sc_Other___init__ rfl rfl (fun cdv A outer s H E hr tk pss => ?_), F.bindsN (fun _ _ _ _ _ _ us hl => match us, hl with | [_, _], _ => rfl)⟩⟩
    have sc := sc_Other___init__
    exact (sb_cons (ss_fld h.fl_turned_rule (se_var (pv 0)) (se_var (pv 1)) rfl) sb_nil)
theorem sc_Rule___invert__ : FnScope ["self"] ["self"] (defScope (mthOf 5 (top 1))) := ⟨rfl, rfl, rfl, by decide +kernel, rfl, by decide +kernel, by decide +kernel⟩
theorem ok_Rule___invert__ (h : Fc P w K mg) : MthIn P w K mg base "Rule" "__invert__" 3 c_Rule___invert__ := by
    obtain ⟨fd, F⟩ := h.d_Rule___invert__
    refine ⟨⟨fd, _, rf_fn (n := 1) (np := 1) (j := 2) (m := m_Rule___invert__) F sc_Rule___invert__ rfl rfl (fun cdv A outer s H E hr tk pss => ?_), F.bindsN (fun _ _ _ _ _ _ us hl => match us, hl with | [_], _ => rfl)⟩⟩
    have sc := sc_Rule___invert__
    exact (sb_cons (ss_ret (se_make (MthIn.mkC (ok_Other___init__ h) h.mk_Other hr (by omega) rfl rfl rfl rfl rfl) (by rfl) (sae_cons (se_var (pv 0)) sae_nil rfl) rfl (by decide))) sb_nil)
theorem sc_Both___init__ : FnScope ["self", "first_rule", "second_rule"] ["self", "first_rule", "second_rule"] (defScope (mthOf 0 (top 2))) := ⟨rfl, rfl, rfl, by decide +kernel, rfl, by decide +kernel, by decide +kernel⟩
theorem ok_Both___init__ (h : Fc P w K mg) : MthIn P w K mg base "Both" "__init__" 1 c_Both___init__ := by
    obtain ⟨fd, F⟩ := h.d_Both___init__
    refine ⟨⟨fd, _, rf_fn (n := 3) (np := 3) (j := 0) (m := m_Both___init__) F sc_Both___init__ rfl rfl (fun cdv A outer s H E hr tk pss => ?_), F.bindsN (fun _ _ _ _ _ _ us hl => match us, hl with | [_, _, _], _ => rfl)⟩⟩
    have sc := sc_Both___init__
    exact (sb_cons (ss_fld h.fl_first_rule (se_var (pv 0)) (se_var (pv 1)) rfl) (sb_cons (ss_fld h.fl_second_rule (se_var (pv 0)) (se_var (pv 2)) rfl) sb_nil))
theorem sc_Rule___and__ : FnScope ["self", "other"] ["self", "other"] (defScope (mthOf 2 (top 1))) := ⟨rfl, rfl, rfl, by decide +kernel, rfl, by decide +kernel, by decide +kernel⟩
theorem ok_Rule___and__ (h : Fc P w K mg) : MthIn P w K mg base "Rule" "__and__" 3 c_Rule___and__ := by
    obtain ⟨fd, F⟩ := h.d_Rule___and__
    refine ⟨⟨fd, _, rf_fn (n := 2) (np := 2) (j := 2) (m := m_Rule___and__) F sc_Rule___and__ rfl rfl (fun cdv A outer s H E hr tk pss => ?_), F.bindsN (fun _ _ _ _ _ _ us hl => match us, hl with | [_, _], _ => rfl)⟩⟩
    have sc := sc_Rule___and__
    exact (sb_cons (ss_ret (se_make (MthIn.mkC (ok_Both___init__ h) h.mk_Both hr (by omega) rfl rfl rfl rfl rfl) (by rfl) (sae_cons (se_var (pv 0)) (sae_cons (se_var (pv 1)) sae_nil rfl) rfl) rfl (by decide))) sb_nil)
theorem sc_Either___init__ : FnScope ["self", "first_rule", "second_rule"] ["self", "first_rule", "second_rule"] (defScope (mthOf 0 (top 3))) := ⟨rfl, rfl, rfl, by decide +kernel, rfl, by decide +kernel, by decide +kernel⟩
theorem ok_Either___init__ (h : Fc P w K mg) : MthIn P w K mg base "Either" "__init__" 1 c_Either___init__ := by
    obtain ⟨fd, F⟩ := h.d_Either___init__
    refine ⟨⟨fd, _, rf_fn (n := 3) (np := 3) (j := 0) (m := m_Either___init__) F sc_Either___init__ rfl rfl (fun cdv A outer s H E hr tk pss => ?_), F.bindsN (fun _ _ _ _ _ _ us hl => match us, hl with | [_, _, _], _ => rfl)⟩⟩
    have sc := sc_Either___init__
    exact (sb_cons (ss_fld h.fl_first_rule (se_var (pv 0)) (se_var (pv 1)) rfl) (sb_cons (ss_fld h.fl_second_rule (se_var (pv 0)) (se_var (pv 2)) rfl) sb_nil))
theorem sc_Rule___or__ : FnScope ["self", "other"] ["self", "other"] (defScope (mthOf 3 (top 1))) := ⟨rfl, rfl, rfl, by decide +kernel, rfl, by decide +kernel, by decide +kernel⟩
theorem ok_Rule___or__ (h : Fc P w K mg) : MthIn P w K mg base "Rule" "__or__" 3 c_Rule___or__ := by
    obtain ⟨fd, F⟩ := h.d_Rule___or__
    refine ⟨⟨fd, _, rf_fn (n := 2) (np := 2) (j := 2) (m := m_Rule___or__) F sc_Rule___or__ rfl rfl (fun cdv A outer s H E hr tk pss => ?_), F.bindsN (fun _ _ _ _ _ _ us hl => match us, hl with | [_, _], _ => rfl)⟩⟩
    have sc := sc_Rule___or__
    exact (sb_cons (ss_ret (se_make (MthIn.mkC (ok_Either___init__ h) h.mk_Either hr (by omega) rfl rfl rfl rfl rfl) (by rfl) (sae_cons (se_var (pv 0)) (sae_cons (se_var (pv 1)) sae_nil rfl) rfl) rfl (by decide))) sb_nil)
theorem sc_Rule___sub__ : FnScope ["self", "other"] ["self", "other"] (defScope (mthOf 4 (top 1))) := ⟨rfl, rfl, rfl, by decide +kernel, rfl, by decide +kernel, by decide +kernel⟩
theorem ok_Rule___sub__ (h : Fc P w K mg) : MthIn P w K mg base "Rule" "__sub__" 3 c_Rule___sub__ := by
    obtain ⟨fd, F⟩ := h.d_Rule___sub__
    refine ⟨⟨fd, _, rf_fn (n := 2) (np := 2) (j := 2) (m := m_Rule___sub__) F sc_Rule___sub__ rfl rfl (fun cdv A outer s H E hr tk pss => ?_), F.bindsN (fun _ _ _ _ _ _ us hl => match us, hl with | [_, _], _ => rfl)⟩⟩
    have sc := sc_Rule___sub__
    exact (sb_cons (ss_ret (se_make (MthIn.mkC (ok_Both___init__ h) h.mk_Both hr (by omega) rfl rfl rfl rfl rfl) (by rfl) (sae_cons (se_var (pv 0)) (sae_cons (se_make (MthIn.mkC (ok_Other___init__ h) h.mk_Other hr (by omega) rfl rfl rfl rfl rfl) (by rfl) (sae_cons (se_var (pv 1)) sae_nil rfl) rfl (by decide)) sae_nil rfl) rfl) rfl (by decide))) sb_nil)
theorem sc__law_joined : FnScope ["_law_deck_here", "_law_rows", "_law_one_here", "_law_other", "_law_left", "_law_right", "_law_kind"] ["_law_deck_here", "_law_rows"] (defScope (top 19)) := ⟨rfl, rfl, rfl, by decide +kernel, rfl, by decide +kernel, by decide +kernel⟩
theorem ok__law_joined (h : Fc P w K mg) : FnIn P w K mg base "_law_joined" 4 c__law_joined := by
    obtain ⟨f, fd, F, hm⟩ := h.d__law_joined
    refine ⟨f, fd, _, rf_fn (n := 7) (np := 2) (j := 3) (m := m__law_joined) F sc__law_joined rfl rfl (fun cdv A outer s H E hr tk pss => ?_), hm, F.kp, F.bindsN (fun _ _ _ _ _ _ us hl => match us, hl with | [_, _], _ => rfl)⟩
    have sc := sc__law_joined
    exact (sb_cons (ss_par2 (i := 2) (j := 3) rfl sc.nd rfl rfl (by decide) rfl rfl (sae_cons (se_call (FnIn.at (ok__law_draw h) hr (by omega) rfl rfl rfl rfl rfl) (by rfl) tk (sae_cons (se_var (pv 0)) (sae_cons (se_callB bLen_ok (by rfl) h.b_len (by rfl) (sa_cons (sp_var (pv 1)) sa_nil rfl) rfl (by decide) (by decide)) sae_nil rfl) rfl) rfl (by decide)) (sae_cons (se_call (FnIn.at (ok__law_draw h) hr (by omega) rfl rfl rfl rfl rfl) (by rfl) tk (sae_cons (se_var (pv 0)) (sae_cons (se_callB bLen_ok (by rfl) h.b_len (by rfl) (sa_cons (sp_var (pv 1)) sa_nil rfl) rfl (by decide) (by decide)) sae_nil rfl) rfl) rfl (by decide)) sae_nil rfl) rfl) rfl) (sb_cons (ss_par2 (i := 4) (j := 5) rfl sc.nd rfl rfl (by decide) rfl rfl (sae_cons (se_ix (SE.pk (se_ix (sp_var (pv 1)) (sp_var (pv 2)) rfl)) (SE.pk se_int) rfl) (sae_cons (se_ix (SE.pk (se_ix (sp_var (pv 1)) (sp_var (pv 3)) rfl)) (SE.pk se_int) rfl) sae_nil rfl) rfl) rfl) (sb_cons (ss_set sc.nd rfl (by first | exact Or.inl rfl | exact Or.inr rfl) rfl (se_call (FnIn.at (ok__law_draw h) hr (by omega) rfl rfl rfl rfl rfl) (by rfl) tk (sae_cons (se_var (pv 0)) (sae_cons se_int sae_nil rfl) rfl) rfl (by decide)) rfl) (sb_cons (ss_if (st_cmp (cEq_ok hr.units) (sp_var (pv 6)) (SE.pk se_int) rfl) (sb_cons (ss_ret (se_tup (sae_cons (se_opI (op := .BitAnd) (Or.inl rfl) (MthIn.op (nm := "and") (ok_Rule___and__ h) h.op_and hr (by omega) rfl rfl rfl rfl rfl) (se_var (pv 4)) (se_var (pv 5))) (sae_cons (se_tup (sae_cons (se_str (l := [97, 110, 100]) (by decide +kernel)) (sae_cons (se_var (pv 2)) (sae_cons (se_var (pv 3)) sae_nil rfl) rfl) rfl)) sae_nil rfl) rfl))) sb_nil) sb_nil) (sb_cons (ss_if (st_cmp (cEq_ok hr.units) (sp_var (pv 6)) (SE.pk se_int) rfl) (sb_cons (ss_ret (se_tup (sae_cons (se_opI (op := .BitOr) (Or.inr (Or.inl rfl)) (MthIn.op (nm := "or") (ok_Rule___or__ h) h.op_or hr (by omega) rfl rfl rfl rfl rfl) (se_var (pv 4)) (se_var (pv 5))) (sae_cons (se_tup (sae_cons (se_str (l := [111, 114]) (by decide +kernel)) (sae_cons (se_var (pv 2)) (sae_cons (se_var (pv 3)) sae_nil rfl) rfl) rfl)) sae_nil rfl) rfl))) sb_nil) sb_nil) (sb_cons (ss_if (st_cmp (cEq_ok hr.units) (sp_var (pv 6)) (SE.pk se_int) rfl) (sb_cons (ss_ret (se_tup (sae_cons (se_opI (op := .Sub) (Or.inr (Or.inr rfl)) (MthIn.op (nm := "sub") (ok_Rule___sub__ h) h.op_sub hr (by omega) rfl rfl rfl rfl rfl) (se_var (pv 4)) (se_var (pv 5))) (sae_cons (se_tup (sae_cons (se_str (l := [108, 101, 115, 115]) (by decide +kernel)) (sae_cons (se_var (pv 2)) (sae_cons (se_var (pv 3)) sae_nil rfl) rfl) rfl)) sae_nil rfl) rfl))) sb_nil) sb_nil) (sb_cons (ss_ret (se_tup (sae_cons (se_inv (MthIn.un (ok_Rule___invert__ h) h.op_invert hr (by omega) rfl rfl rfl rfl rfl) (se_var (pv 4))) (sae_cons (se_tup (sae_cons (se_str (l := [110, 111, 116]) (by decide +kernel)) (sae_cons (se_var (pv 2)) (sae_cons se_non sae_nil rfl) rfl) rfl)) sae_nil rfl) rfl))) sb_nil)))))))
theorem sc_Rule_allows : FnScope ["self", "making", "twin"] ["self", "making", "twin"] (defScope (mthOf 0 (top 1))) := ⟨rfl, rfl, rfl, by decide +kernel, rfl, by decide +kernel, by decide +kernel⟩
theorem ok_Rule_allows (h : Fc P w K mg) : MthIn P w K mg base "Rule" "allows" 1 c_Rule_allows := by
    obtain ⟨fd, F⟩ := h.d_Rule_allows
    refine ⟨⟨fd, _, rf_fn (n := 3) (np := 3) (j := 0) (m := m_Rule_allows) F sc_Rule_allows rfl rfl (fun cdv A outer s H E hr tk pss => ?_), F.bindsN (fun _ _ _ _ _ _ us hl => match us, hl with | [_, _, _], _ => rfl)⟩⟩
    have sc := sc_Rule_allows
    exact (sb_cons (ss_ret se_bl) sb_nil)
theorem sc_Always_allows : FnScope ["self", "making", "twin"] ["self", "making", "twin"] (defScope (mthOf 0 (top 5))) := ⟨rfl, rfl, rfl, by decide +kernel, rfl, by decide +kernel, by decide +kernel⟩
theorem ok_Always_allows (h : Fc P w K mg) : MthIn P w K mg base "Always" "allows" 1 c_Always_allows := by
    obtain ⟨fd, F⟩ := h.d_Always_allows
    refine ⟨⟨fd, _, rf_fn (n := 3) (np := 3) (j := 0) (m := m_Always_allows) F sc_Always_allows rfl rfl (fun cdv A outer s H E hr tk pss => ?_), F.bindsN (fun _ _ _ _ _ _ us hl => match us, hl with | [_, _, _], _ => rfl)⟩⟩
    have sc := sc_Always_allows
    exact (sb_cons (ss_ret se_bl) sb_nil)
theorem sc_Kinds_allows : FnScope ["self", "making", "twin"] ["self", "making", "twin"] (defScope (mthOf 1 (top 6))) := ⟨rfl, rfl, rfl, by decide +kernel, rfl, by decide +kernel, by decide +kernel⟩
theorem ok_Kinds_allows (h : Fc P w K mg) : MthIn P w K mg base "Kinds" "allows" 1 c_Kinds_allows := by
    obtain ⟨fd, F⟩ := h.d_Kinds_allows
    refine ⟨⟨fd, _, rf_fn (n := 3) (np := 3) (j := 0) (m := m_Kinds_allows) F sc_Kinds_allows rfl rfl (fun cdv A outer s H E hr tk pss => ?_), F.bindsN (fun _ _ _ _ _ _ us hl => match us, hl with | [_, _, _], _ => rfl)⟩⟩
    have sc := sc_Kinds_allows
    exact (sb_cons (ss_ret (se_cmp cIn_ok (SE.pk (se_ix (sp_var (pv 1)) (SE.pk se_int) rfl)) (SE.pk (se_fld h.fl_kinds (se_var (pv 0)) (not_super rfl))) rfl)) sb_nil)
theorem sc_Between_allows : FnScope ["self", "making", "twin"] ["self", "making", "twin"] (defScope (mthOf 1 (top 7))) := ⟨rfl, rfl, rfl, by decide +kernel, rfl, by decide +kernel, by decide +kernel⟩
theorem ok_Between_allows (h : Fc P w K mg) : MthIn P w K mg base "Between" "allows" 1 c_Between_allows := by
    obtain ⟨fd, F⟩ := h.d_Between_allows
    refine ⟨⟨fd, _, rf_fn (n := 3) (np := 3) (j := 0) (m := m_Between_allows) F sc_Between_allows rfl rfl (fun cdv A outer s H E hr tk pss => ?_), F.bindsN (fun _ _ _ _ _ _ us hl => match us, hl with | [_, _, _], _ => rfl)⟩⟩
    have sc := sc_Between_allows
    exact (sb_cons (ss_ret (se_and (se_cmp cIsNot_ok (SE.pk (se_ix (sp_var (pv 1)) (SE.pk se_int) rfl)) (SE.pk se_non) rfl) (se_one (se_chain cLe_ok cLe_ok (SE.pk (se_fld h.fl_low (se_var (pv 0)) (not_super rfl))) (SE.pk (se_ix (sp_var (pv 1)) (SE.pk se_int) rfl)) (SE.pk (se_fld h.fl_high (se_var (pv 0)) (not_super rfl))) rfl)))) sb_nil)
theorem sc_Sizes_allows : FnScope ["self", "making", "twin"] ["self", "making", "twin"] (defScope (mthOf 1 (top 8))) := ⟨rfl, rfl, rfl, by decide +kernel, rfl, by decide +kernel, by decide +kernel⟩
theorem ok_Sizes_allows (h : Fc P w K mg) : MthIn P w K mg base "Sizes" "allows" 1 c_Sizes_allows := by
    obtain ⟨fd, F⟩ := h.d_Sizes_allows
    refine ⟨⟨fd, _, rf_fn (n := 3) (np := 3) (j := 0) (m := m_Sizes_allows) F sc_Sizes_allows rfl rfl (fun cdv A outer s H E hr tk pss => ?_), F.bindsN (fun _ _ _ _ _ _ us hl => match us, hl with | [_, _, _], _ => rfl)⟩⟩
    have sc := sc_Sizes_allows
    exact (sb_cons (ss_ret (se_cmp cLe_ok (SE.pk (se_ix (sp_var (pv 1)) (SE.pk se_int) rfl)) (SE.pk (se_fld h.fl_most (se_var (pv 0)) (not_super rfl))) rfl)) sb_nil)
theorem sc_SamePlace_allows : FnScope ["self", "making", "twin"] ["self", "making", "twin"] (defScope (mthOf 0 (top 9))) := ⟨rfl, rfl, rfl, by decide +kernel, rfl, by decide +kernel, by decide +kernel⟩
theorem ok_SamePlace_allows (h : Fc P w K mg) : MthIn P w K mg base "SamePlace" "allows" 1 c_SamePlace_allows := by
    obtain ⟨fd, F⟩ := h.d_SamePlace_allows
    refine ⟨⟨fd, _, rf_fn (n := 3) (np := 3) (j := 0) (m := m_SamePlace_allows) F sc_SamePlace_allows rfl rfl (fun cdv A outer s H E hr tk pss => ?_), F.bindsN (fun _ _ _ _ _ _ us hl => match us, hl with | [_, _, _], _ => rfl)⟩⟩
    have sc := sc_SamePlace_allows
    exact (sb_cons (ss_ret (se_and (se_cmp cIsNot_ok (SE.pk (se_ix (sp_var (pv 1)) (SE.pk se_int) rfl)) (SE.pk se_non) rfl) (se_one (se_cmp (cEq_ok hr.units) (SE.pk (se_ix (sp_var (pv 1)) (SE.pk se_int) rfl)) (SE.pk (se_ix (sp_var (pv 2)) (SE.pk se_int) rfl)) rfl)))) sb_nil)
theorem sc_Written_allows : FnScope ["self", "making", "twin"] ["self", "making", "twin"] (defScope (mthOf 0 (top 10))) := ⟨rfl, rfl, rfl, by decide +kernel, rfl, by decide +kernel, by decide +kernel⟩
theorem ok_Written_allows (h : Fc P w K mg) : MthIn P w K mg base "Written" "allows" 1 c_Written_allows := by
    obtain ⟨fd, F⟩ := h.d_Written_allows
    refine ⟨⟨fd, _, rf_fn (n := 3) (np := 3) (j := 0) (m := m_Written_allows) F sc_Written_allows rfl rfl (fun cdv A outer s H E hr tk pss => ?_), F.bindsN (fun _ _ _ _ _ _ us hl => match us, hl with | [_, _, _], _ => rfl)⟩⟩
    have sc := sc_Written_allows
    exact (sb_cons (ss_ret (se_and (se_cmp cIsNot_ok (SE.pk (se_ix (sp_var (pv 1)) (SE.pk se_int) rfl)) (SE.pk se_non) rfl) (se_one (se_cmp cIsNot_ok (SE.pk (se_ix (sp_var (pv 2)) (SE.pk se_int) rfl)) (SE.pk se_non) rfl)))) sb_nil)
theorem sc_Both_allows : FnScope ["self", "making", "twin"] ["self", "making", "twin"] (defScope (mthOf 1 (top 2))) := ⟨rfl, rfl, rfl, by decide +kernel, rfl, by decide +kernel, by decide +kernel⟩
theorem sc_Either_allows : FnScope ["self", "making", "twin"] ["self", "making", "twin"] (defScope (mthOf 1 (top 3))) := ⟨rfl, rfl, rfl, by decide +kernel, rfl, by decide +kernel, by decide +kernel⟩
theorem sc_Other_allows : FnScope ["self", "making", "twin"] ["self", "making", "twin"] (defScope (mthOf 1 (top 4))) := ⟨rfl, rfl, rfl, by decide +kernel, rfl, by decide +kernel, by decide +kernel⟩
theorem ok_Both_allows (h : Fc P w K mg) : ∀ n, MthIn P w K mg base "Both" "allows" (2 + n) (g_Both_allows n 0) ∧ MthIn P w K mg base "Either" "allows" (2 + n) (g_Both_allows n 1) ∧ MthIn P w K mg base "Other" "allows" (2 + n) (g_Both_allows n 2)
  | 0 => ⟨by
    obtain ⟨fd, F⟩ := h.d_Both_allows
    refine ⟨⟨fd, _, rf_fn (n := 3) (np := 3) (j := 1) (m := sNo) F sc_Both_allows rfl rfl (fun cdv A outer s H E hr tk pss => ?_), F.bindsN (fun _ _ _ _ _ _ us hl => match us, hl with | [_, _, _], _ => rfl)⟩⟩
    have sc := sc_Both_allows
    exact sb_no, by
    obtain ⟨fd, F⟩ := h.d_Either_allows
    refine ⟨⟨fd, _, rf_fn (n := 3) (np := 3) (j := 1) (m := sNo) F sc_Either_allows rfl rfl (fun cdv A outer s H E hr tk pss => ?_), F.bindsN (fun _ _ _ _ _ _ us hl => match us, hl with | [_, _, _], _ => rfl)⟩⟩
    have sc := sc_Either_allows
    exact sb_no, by
    obtain ⟨fd, F⟩ := h.d_Other_allows
    refine ⟨⟨fd, _, rf_fn (n := 3) (np := 3) (j := 1) (m := sNo) F sc_Other_allows rfl rfl (fun cdv A outer s H E hr tk pss => ?_), F.bindsN (fun _ _ _ _ _ _ us hl => match us, hl with | [_, _, _], _ => rfl)⟩⟩
    have sc := sc_Other_allows
    exact sb_no⟩
  | n + 1 => by
    have self := ok_Both_allows h n
    refine ⟨?_, ?_, ?_⟩
    · obtain ⟨fd, F⟩ := h.d_Both_allows
      refine ⟨⟨fd, _, rf_fn (n := 3) (np := 3) (j := 2 + n) (m := m_Both_allows (g_Both_allows n)) F sc_Both_allows rfl rfl (fun cdv A outer s H E hr tk pss => ?_), F.bindsN (fun _ _ _ _ _ _ us hl => match us, hl with | [_, _, _], _ => rfl)⟩⟩
      have sc := sc_Both_allows
      exact (sb_cons (ss_ret (se_and (se_meth (mth_cons (MthIn.at (ok_Rule_allows h) h.mf_Rule_allows hr (by omega) rfl rfl rfl rfl rfl) (mth_cons (MthIn.at self.1 h.mf_Both_allows hr (by omega) rfl rfl rfl rfl rfl) (mth_cons (MthIn.at self.2.1 h.mf_Either_allows hr (by omega) rfl rfl rfl rfl rfl) (mth_cons (MthIn.at self.2.2 h.mf_Other_allows hr (by omega) rfl rfl rfl rfl rfl) (mth_cons (MthIn.at (ok_Always_allows h) h.mf_Always_allows hr (by omega) rfl rfl rfl rfl rfl) (mth_cons (MthIn.at (ok_Kinds_allows h) h.mf_Kinds_allows hr (by omega) rfl rfl rfl rfl rfl) (mth_cons (MthIn.at (ok_Between_allows h) h.mf_Between_allows hr (by omega) rfl rfl rfl rfl rfl) (mth_cons (MthIn.at (ok_Sizes_allows h) h.mf_Sizes_allows hr (by omega) rfl rfl rfl rfl rfl) (mth_cons (MthIn.at (ok_SamePlace_allows h) h.mf_SamePlace_allows hr (by omega) rfl rfl rfl rfl rfl) (mth_cons (MthIn.at (ok_Written_allows h) h.mf_Written_allows hr (by omega) rfl rfl rfl rfl rfl) mth_nil)))))))))) tk (se_fld h.fl_first_rule (se_var (pv 0)) (not_super rfl)) (sae_cons (se_var (pv 1)) (sae_cons (se_var (pv 2)) sae_nil rfl) rfl) rfl rfl) (se_one (se_meth (mth_cons (MthIn.at (ok_Rule_allows h) h.mf_Rule_allows hr (by omega) rfl rfl rfl rfl rfl) (mth_cons (MthIn.at self.1 h.mf_Both_allows hr (by omega) rfl rfl rfl rfl rfl) (mth_cons (MthIn.at self.2.1 h.mf_Either_allows hr (by omega) rfl rfl rfl rfl rfl) (mth_cons (MthIn.at self.2.2 h.mf_Other_allows hr (by omega) rfl rfl rfl rfl rfl) (mth_cons (MthIn.at (ok_Always_allows h) h.mf_Always_allows hr (by omega) rfl rfl rfl rfl rfl) (mth_cons (MthIn.at (ok_Kinds_allows h) h.mf_Kinds_allows hr (by omega) rfl rfl rfl rfl rfl) (mth_cons (MthIn.at (ok_Between_allows h) h.mf_Between_allows hr (by omega) rfl rfl rfl rfl rfl) (mth_cons (MthIn.at (ok_Sizes_allows h) h.mf_Sizes_allows hr (by omega) rfl rfl rfl rfl rfl) (mth_cons (MthIn.at (ok_SamePlace_allows h) h.mf_SamePlace_allows hr (by omega) rfl rfl rfl rfl rfl) (mth_cons (MthIn.at (ok_Written_allows h) h.mf_Written_allows hr (by omega) rfl rfl rfl rfl rfl) mth_nil)))))))))) tk (se_fld h.fl_second_rule (se_var (pv 0)) (not_super rfl)) (sae_cons (se_var (pv 1)) (sae_cons (se_var (pv 2)) sae_nil rfl) rfl) rfl rfl)))) sb_nil)
    · obtain ⟨fd, F⟩ := h.d_Either_allows
      refine ⟨⟨fd, _, rf_fn (n := 3) (np := 3) (j := 2 + n) (m := m_Either_allows (g_Both_allows n)) F sc_Either_allows rfl rfl (fun cdv A outer s H E hr tk pss => ?_), F.bindsN (fun _ _ _ _ _ _ us hl => match us, hl with | [_, _, _], _ => rfl)⟩⟩
      have sc := sc_Either_allows
      exact (sb_cons (ss_ret (se_or (se_meth (mth_cons (MthIn.at (ok_Rule_allows h) h.mf_Rule_allows hr (by omega) rfl rfl rfl rfl rfl) (mth_cons (MthIn.at self.1 h.mf_Both_allows hr (by omega) rfl rfl rfl rfl rfl) (mth_cons (MthIn.at self.2.1 h.mf_Either_allows hr (by omega) rfl rfl rfl rfl rfl) (mth_cons (MthIn.at self.2.2 h.mf_Other_allows hr (by omega) rfl rfl rfl rfl rfl) (mth_cons (MthIn.at (ok_Always_allows h) h.mf_Always_allows hr (by omega) rfl rfl rfl rfl rfl) (mth_cons (MthIn.at (ok_Kinds_allows h) h.mf_Kinds_allows hr (by omega) rfl rfl rfl rfl rfl) (mth_cons (MthIn.at (ok_Between_allows h) h.mf_Between_allows hr (by omega) rfl rfl rfl rfl rfl) (mth_cons (MthIn.at (ok_Sizes_allows h) h.mf_Sizes_allows hr (by omega) rfl rfl rfl rfl rfl) (mth_cons (MthIn.at (ok_SamePlace_allows h) h.mf_SamePlace_allows hr (by omega) rfl rfl rfl rfl rfl) (mth_cons (MthIn.at (ok_Written_allows h) h.mf_Written_allows hr (by omega) rfl rfl rfl rfl rfl) mth_nil)))))))))) tk (se_fld h.fl_first_rule (se_var (pv 0)) (not_super rfl)) (sae_cons (se_var (pv 1)) (sae_cons (se_var (pv 2)) sae_nil rfl) rfl) rfl rfl) (se_one (se_meth (mth_cons (MthIn.at (ok_Rule_allows h) h.mf_Rule_allows hr (by omega) rfl rfl rfl rfl rfl) (mth_cons (MthIn.at self.1 h.mf_Both_allows hr (by omega) rfl rfl rfl rfl rfl) (mth_cons (MthIn.at self.2.1 h.mf_Either_allows hr (by omega) rfl rfl rfl rfl rfl) (mth_cons (MthIn.at self.2.2 h.mf_Other_allows hr (by omega) rfl rfl rfl rfl rfl) (mth_cons (MthIn.at (ok_Always_allows h) h.mf_Always_allows hr (by omega) rfl rfl rfl rfl rfl) (mth_cons (MthIn.at (ok_Kinds_allows h) h.mf_Kinds_allows hr (by omega) rfl rfl rfl rfl rfl) (mth_cons (MthIn.at (ok_Between_allows h) h.mf_Between_allows hr (by omega) rfl rfl rfl rfl rfl) (mth_cons (MthIn.at (ok_Sizes_allows h) h.mf_Sizes_allows hr (by omega) rfl rfl rfl rfl rfl) (mth_cons (MthIn.at (ok_SamePlace_allows h) h.mf_SamePlace_allows hr (by omega) rfl rfl rfl rfl rfl) (mth_cons (MthIn.at (ok_Written_allows h) h.mf_Written_allows hr (by omega) rfl rfl rfl rfl rfl) mth_nil)))))))))) tk (se_fld h.fl_second_rule (se_var (pv 0)) (not_super rfl)) (sae_cons (se_var (pv 1)) (sae_cons (se_var (pv 2)) sae_nil rfl) rfl) rfl rfl)))) sb_nil)
    · obtain ⟨fd, F⟩ := h.d_Other_allows
      refine ⟨⟨fd, _, rf_fn (n := 3) (np := 3) (j := 2 + n) (m := m_Other_allows (g_Both_allows n)) F sc_Other_allows rfl rfl (fun cdv A outer s H E hr tk pss => ?_), F.bindsN (fun _ _ _ _ _ _ us hl => match us, hl with | [_, _, _], _ => rfl)⟩⟩
      have sc := sc_Other_allows
      exact (sb_cons (ss_ret (se_not (se_meth (mth_cons (MthIn.at (ok_Rule_allows h) h.mf_Rule_allows hr (by omega) rfl rfl rfl rfl rfl) (mth_cons (MthIn.at self.1 h.mf_Both_allows hr (by omega) rfl rfl rfl rfl rfl) (mth_cons (MthIn.at self.2.1 h.mf_Either_allows hr (by omega) rfl rfl rfl rfl rfl) (mth_cons (MthIn.at self.2.2 h.mf_Other_allows hr (by omega) rfl rfl rfl rfl rfl) (mth_cons (MthIn.at (ok_Always_allows h) h.mf_Always_allows hr (by omega) rfl rfl rfl rfl rfl) (mth_cons (MthIn.at (ok_Kinds_allows h) h.mf_Kinds_allows hr (by omega) rfl rfl rfl rfl rfl) (mth_cons (MthIn.at (ok_Between_allows h) h.mf_Between_allows hr (by omega) rfl rfl rfl rfl rfl) (mth_cons (MthIn.at (ok_Sizes_allows h) h.mf_Sizes_allows hr (by omega) rfl rfl rfl rfl rfl) (mth_cons (MthIn.at (ok_SamePlace_allows h) h.mf_SamePlace_allows hr (by omega) rfl rfl rfl rfl rfl) (mth_cons (MthIn.at (ok_Written_allows h) h.mf_Written_allows hr (by omega) rfl rfl rfl rfl rfl) mth_nil)))))))))) tk (se_fld h.fl_turned_rule (se_var (pv 0)) (not_super rfl)) (sae_cons (se_var (pv 1)) (sae_cons (se_var (pv 2)) sae_nil rfl) rfl) rfl rfl))) sb_nil)
theorem sc_Rule___call__ : FnScope ["self", "making", "twin"] ["self", "making", "twin"] (defScope (mthOf 1 (top 1))) := ⟨rfl, rfl, rfl, by decide +kernel, rfl, by decide +kernel, by decide +kernel⟩
theorem ok_Rule___call__ (h : Fc P w K mg) : MthIn P w K mg base "Rule" "__call__" 43 c_Rule___call__ := by
    obtain ⟨fd, F⟩ := h.d_Rule___call__
    refine ⟨⟨fd, _, rf_fn (n := 3) (np := 3) (j := 42) (m := m_Rule___call__) F sc_Rule___call__ rfl rfl (fun cdv A outer s H E hr tk pss => ?_), F.bindsN (fun _ _ _ _ _ _ us hl => match us, hl with | [_, _, _], _ => rfl)⟩⟩
    have sc := sc_Rule___call__
    exact (sb_cons (ss_ret (se_meth (mth_cons (MthIn.at (ok_Rule_allows h) h.mf_Rule_allows hr (by omega) rfl rfl rfl rfl rfl) (mth_cons (MthIn.at ((ok_Both_allows h 40).1) h.mf_Both_allows hr (by omega) rfl rfl rfl rfl rfl) (mth_cons (MthIn.at ((ok_Both_allows h 40).2.1) h.mf_Either_allows hr (by omega) rfl rfl rfl rfl rfl) (mth_cons (MthIn.at ((ok_Both_allows h 40).2.2) h.mf_Other_allows hr (by omega) rfl rfl rfl rfl rfl) (mth_cons (MthIn.at (ok_Always_allows h) h.mf_Always_allows hr (by omega) rfl rfl rfl rfl rfl) (mth_cons (MthIn.at (ok_Kinds_allows h) h.mf_Kinds_allows hr (by omega) rfl rfl rfl rfl rfl) (mth_cons (MthIn.at (ok_Between_allows h) h.mf_Between_allows hr (by omega) rfl rfl rfl rfl rfl) (mth_cons (MthIn.at (ok_Sizes_allows h) h.mf_Sizes_allows hr (by omega) rfl rfl rfl rfl rfl) (mth_cons (MthIn.at (ok_SamePlace_allows h) h.mf_SamePlace_allows hr (by omega) rfl rfl rfl rfl rfl) (mth_cons (MthIn.at (ok_Written_allows h) h.mf_Written_allows hr (by omega) rfl rfl rfl rfl rfl) mth_nil)))))))))) tk (se_var (pv 0)) (sae_cons (se_var (pv 1)) (sae_cons (se_var (pv 2)) sae_nil rfl) rfl) rfl rfl)) sb_nil)
theorem sc__law_same : FnScope ["_law_one_here", "_law_other", "_law_making", "_law_twin"] ["_law_one_here", "_law_other", "_law_making", "_law_twin"] (defScope (top 21)) := ⟨rfl, rfl, rfl, by decide +kernel, rfl, by decide +kernel, by decide +kernel⟩
theorem ok__law_same (h : Fc P w K mg) : FnIn P w K mg base "_law_same" 44 c__law_same := by
    obtain ⟨f, fd, F, hm⟩ := h.d__law_same
    refine ⟨f, fd, _, rf_fn (n := 4) (np := 4) (j := 43) (m := m__law_same) F sc__law_same rfl rfl (fun cdv A outer s H E hr tk pss => ?_), hm, F.kp, F.bindsN (fun _ _ _ _ _ _ us hl => match us, hl with | [_, _, _, _], _ => rfl)⟩
    have sc := sc__law_same
    exact (sb_cons (ss_ret (se_cmp (cEq_ok hr.units) (SE.pk (se_callB (bReprB_ok (un64 hr.units) hr.gd) (by rfl) h.b_repr (by rfl) (sa_cons (SE.pk (se_co (cal_cons (MthIn.call (ok_Rule___call__ h) h.cal_Rule hr (by omega) rfl rfl rfl rfl rfl) (cal_cons (MthIn.call (ok_Rule___call__ h) h.cal_Both hr (by omega) rfl rfl rfl rfl rfl) (cal_cons (MthIn.call (ok_Rule___call__ h) h.cal_Either hr (by omega) rfl rfl rfl rfl rfl) (cal_cons (MthIn.call (ok_Rule___call__ h) h.cal_Other hr (by omega) rfl rfl rfl rfl rfl) (cal_cons (MthIn.call (ok_Rule___call__ h) h.cal_Always hr (by omega) rfl rfl rfl rfl rfl) (cal_cons (MthIn.call (ok_Rule___call__ h) h.cal_Kinds hr (by omega) rfl rfl rfl rfl rfl) (cal_cons (MthIn.call (ok_Rule___call__ h) h.cal_Between hr (by omega) rfl rfl rfl rfl rfl) (cal_cons (MthIn.call (ok_Rule___call__ h) h.cal_Sizes hr (by omega) rfl rfl rfl rfl rfl) (cal_cons (MthIn.call (ok_Rule___call__ h) h.cal_SamePlace hr (by omega) rfl rfl rfl rfl rfl) (cal_cons (MthIn.call (ok_Rule___call__ h) h.cal_Written hr (by omega) rfl rfl rfl rfl rfl) cal_nil)))))))))) tk (se_var (pv 0)) (sae_cons (se_var (pv 2)) (sae_cons (se_var (pv 3)) sae_nil rfl) rfl) rfl rfl)) sa_nil rfl) rfl (by decide) (by decide))) (SE.pk (se_callB (bReprB_ok (un64 hr.units) hr.gd) (by rfl) h.b_repr (by rfl) (sa_cons (SE.pk (se_co (cal_cons (MthIn.call (ok_Rule___call__ h) h.cal_Rule hr (by omega) rfl rfl rfl rfl rfl) (cal_cons (MthIn.call (ok_Rule___call__ h) h.cal_Both hr (by omega) rfl rfl rfl rfl rfl) (cal_cons (MthIn.call (ok_Rule___call__ h) h.cal_Either hr (by omega) rfl rfl rfl rfl rfl) (cal_cons (MthIn.call (ok_Rule___call__ h) h.cal_Other hr (by omega) rfl rfl rfl rfl rfl) (cal_cons (MthIn.call (ok_Rule___call__ h) h.cal_Always hr (by omega) rfl rfl rfl rfl rfl) (cal_cons (MthIn.call (ok_Rule___call__ h) h.cal_Kinds hr (by omega) rfl rfl rfl rfl rfl) (cal_cons (MthIn.call (ok_Rule___call__ h) h.cal_Between hr (by omega) rfl rfl rfl rfl rfl) (cal_cons (MthIn.call (ok_Rule___call__ h) h.cal_Sizes hr (by omega) rfl rfl rfl rfl rfl) (cal_cons (MthIn.call (ok_Rule___call__ h) h.cal_SamePlace hr (by omega) rfl rfl rfl rfl rfl) (cal_cons (MthIn.call (ok_Rule___call__ h) h.cal_Written hr (by omega) rfl rfl rfl rfl rfl) cal_nil)))))))))) tk (se_var (pv 1)) (sae_cons (se_var (pv 2)) (sae_cons (se_var (pv 3)) sae_nil rfl) rfl) rfl rfl)) sa_nil rfl) rfl (by decide) (by decide))) rfl)) sb_nil)
theorem sc_law : FnScope ["_law_script", "_law_deck_here", "_law_rows", "_law_k", "_law_turn", "_law_making", "_law_twin", "_law_due", "_law_rule", "_law_told", "_law_a", "_law_b", "_law_pairs", "_law_one_here", "_law_other"] ["_law_script"] (defScope (top 22)) := ⟨rfl, rfl, rfl, by decide +kernel, rfl, by decide +kernel, by decide +kernel⟩
theorem okf_law (h : Fc P w K mg) {f : Addr} {fd : FuncData} (F : FunD K "law" "law" (defArgs (top 22)) (defBody (top 22)) (defScope (top 22)) [] [] f fd) : FnOkG P w K mg base (L2N.CX P w) 45 f fd ["_law_script"] (spC (k0 K mg w) c_law) := by
  refine rf_fn (n := 15) (np := 1) (j := 44) (m := m_law) F sc_law rfl rfl (fun cdv A outer s H E hr tk pss => ?_)
  have sc := sc_law
  exact (sb_cons (ss_set sc.nd rfl (by first | exact Or.inl rfl | exact Or.inr rfl) rfl (se_call (FnIn.at (ok__law_deck h) hr (by omega) rfl rfl rfl rfl rfl) (by rfl) tk (sae_cons (se_var (pv 0)) sae_nil rfl) rfl (by decide)) rfl) (sb_cons (by first | exact ss_setLcN (ps_lc rfl sc.nd rfl rfl rfl rfl rfl (si_rng1 md_e (by rfl) h.b_range (SA.q (sa_cons (SE.pk se_int) sa_nil rfl)) rfl) (blkOk_by (own := [("_law_k", 3)]) (by rfl)) (fun _ _ _ _ _ => (sg_name (pg_name sc.nd rfl (by first | exact Or.inl rfl | exact Or.inr rfl)))) (fun _ _ _ _ _ => sts_nil) (fun _ _ _ _ _ => (se_call (FnIn.at (ok__law_basic h) hr (by omega) rfl rfl rfl rfl rfl) (by rfl) takes_no (sae_cons (se_var (pv 1)) sae_nil rfl) rfl (by decide))) (by decide) rfl) | exact ss_setS sc.nd rfl (by first | exact Or.inl rfl | exact Or.inr rfl) rfl (se_nw (sf_lc rfl sc.nd (si_rng1 md_e (by rfl) h.b_range (SA.q (sa_cons (SE.pk se_int) sa_nil rfl)) rfl) (blkOk_by (own := [("_law_k", 3)]) (by rfl)) (fun _ _ _ _ _ => (sg_name (pg_name sc.nd rfl (by first | exact Or.inl rfl | exact Or.inr rfl)))) (fun _ _ _ _ _ => sts_nil) (fun _ _ _ _ _ => (se_call (FnIn.at (ok__law_basic h) hr (by omega) rfl rfl rfl rfl rfl) (by rfl) takes_no (sae_cons (se_var (pv 1)) sae_nil rfl) rfl (by decide))) (by decide) rfl)) rfl) (sb_cons (ss_for pss rfl (si_rng1 md_p (by rfl) h.b_range (SAE.q (sae_cons (se_call (FnIn.at (ok__law_draw h) hr (by omega) rfl rfl rfl rfl rfl) (by rfl) tk (sae_cons (se_var (pv 1)) (sae_cons se_int sae_nil rfl) rfl) rfl (by decide)) sae_nil rfl)) rfl) (sg_name (pg_name sc.nd rfl (by first | exact Or.inl rfl | exact Or.inr rfl))) (sb_cons (ss_appO (se_var (pv 2)) (se_call (FnIn.at (ok__law_joined h) hr (by omega) rfl rfl rfl rfl rfl) (by rfl) tk (sae_cons (se_var (pv 1)) (sae_cons (se_var (pv 2)) sae_nil rfl) rfl) rfl (by decide)) rfl rfl rfl) sb_nil) rfl) (sb_cons (ss_for pss rfl (si_rng1 md_p (by rfl) h.b_range (SAE.q (sae_cons se_int sae_nil rfl)) rfl) (sg_name (pg_name sc.nd rfl (by first | exact Or.inl rfl | exact Or.inr rfl))) (sb_cons (ss_tg rfl rfl rfl (se_call (FnIn.at (ok__law_marks h) hr (by omega) rfl rfl rfl rfl rfl) (by rfl) tk (sae_cons (se_var (pv 1)) sae_nil rfl) rfl (by decide)) (sg_tup rfl (sgs_cons (sg_name (pg_name sc.nd rfl (by first | exact Or.inl rfl | exact Or.inr rfl))) (sgs_cons (sg_name (pg_name sc.nd rfl (by first | exact Or.inl rfl | exact Or.inr rfl))) sgs_nil rfl) rfl) rfl rfl)) (sb_cons (ss_set sc.nd rfl (by first | exact Or.inl rfl | exact Or.inr rfl) rfl (se_call (FnIn.at (ok__law_truths h) hr (by omega) rfl rfl rfl rfl rfl) (by rfl) tk (sae_cons (se_var (pv 2)) (sae_cons (se_var (pv 5)) (sae_cons (se_var (pv 6)) sae_nil rfl) rfl) rfl) rfl (by decide)) rfl) (sb_cons (ss_if (st_cmp (cNe_ok hr.units) (SE.pk (se_callB (bRepr_ok (un64 hr.units) hr.gd) (by rfl) h.b_repr (by rfl) (sa_cons (SE.pk (se_fz (sf_lc rfl sc.nd (si_val md_e (sp_var (pv 2))) (blkOk_by (own := [("_law_rule", 8), ("_law_told", 9)]) (by rfl)) (fun _ _ _ _ _ => (sg_tup rfl (sgs_cons (sg_name (pg_name sc.nd rfl (by first | exact Or.inl rfl | exact Or.inr rfl))) (sgs_cons (sg_name (pg_name sc.nd rfl (by first | exact Or.inl rfl | exact Or.inr rfl))) sgs_nil rfl) rfl) rfl rfl)) (fun _ _ _ _ _ => sts_nil) (fun _ _ _ _ _ => (se_co (cal_cons (MthIn.call (ok_Rule___call__ h) h.cal_Rule hr (by omega) rfl rfl rfl rfl rfl) (cal_cons (MthIn.call (ok_Rule___call__ h) h.cal_Both hr (by omega) rfl rfl rfl rfl rfl) (cal_cons (MthIn.call (ok_Rule___call__ h) h.cal_Either hr (by omega) rfl rfl rfl rfl rfl) (cal_cons (MthIn.call (ok_Rule___call__ h) h.cal_Other hr (by omega) rfl rfl rfl rfl rfl) (cal_cons (MthIn.call (ok_Rule___call__ h) h.cal_Always hr (by omega) rfl rfl rfl rfl rfl) (cal_cons (MthIn.call (ok_Rule___call__ h) h.cal_Kinds hr (by omega) rfl rfl rfl rfl rfl) (cal_cons (MthIn.call (ok_Rule___call__ h) h.cal_Between hr (by omega) rfl rfl rfl rfl rfl) (cal_cons (MthIn.call (ok_Rule___call__ h) h.cal_Sizes hr (by omega) rfl rfl rfl rfl rfl) (cal_cons (MthIn.call (ok_Rule___call__ h) h.cal_SamePlace hr (by omega) rfl rfl rfl rfl rfl) (cal_cons (MthIn.call (ok_Rule___call__ h) h.cal_Written hr (by omega) rfl rfl rfl rfl rfl) cal_nil)))))))))) takes_no (se_var (pv 8)) (sae_cons (se_var (pv 5)) (sae_cons (se_var (pv 6)) sae_nil rfl) rfl) rfl rfl)) (by decide) rfl))) sa_nil rfl) rfl (by decide) (by decide))) (SE.pk (se_callB (bRepr_ok (un64 hr.units) hr.gd) (by rfl) h.b_repr (by rfl) (sa_cons (sp_var (pv 7)) sa_nil rfl) rfl (by decide) (by decide))) rfl) (sb_cons (ss_ret se_bl) sb_nil) sb_nil) (sb_cons (ss_if (st_cmp (cNe_ok hr.units) (SE.pk (se_callB (bRepr_ok (un64 hr.units) hr.gd) (by rfl) h.b_repr (by rfl) (sa_cons (SE.pk (se_fz (sf_lc rfl sc.nd (si_val md_e (sp_var (pv 2))) (blkOk_by (own := [("_law_rule", 8), ("_law_told", 9)]) (by rfl)) (fun _ _ _ _ _ => (sg_tup rfl (sgs_cons (sg_name (pg_name sc.nd rfl (by first | exact Or.inl rfl | exact Or.inr rfl))) (sgs_cons (sg_name (pg_name sc.nd rfl (by first | exact Or.inl rfl | exact Or.inr rfl))) sgs_nil rfl) rfl) rfl rfl)) (fun _ _ _ _ _ => sts_nil) (fun _ _ _ _ _ => (se_meth (mth_cons (MthIn.at (ok_Rule_allows h) h.mf_Rule_allows hr (by omega) rfl rfl rfl rfl rfl) (mth_cons (MthIn.at ((ok_Both_allows h 40).1) h.mf_Both_allows hr (by omega) rfl rfl rfl rfl rfl) (mth_cons (MthIn.at ((ok_Both_allows h 40).2.1) h.mf_Either_allows hr (by omega) rfl rfl rfl rfl rfl) (mth_cons (MthIn.at ((ok_Both_allows h 40).2.2) h.mf_Other_allows hr (by omega) rfl rfl rfl rfl rfl) (mth_cons (MthIn.at (ok_Always_allows h) h.mf_Always_allows hr (by omega) rfl rfl rfl rfl rfl) (mth_cons (MthIn.at (ok_Kinds_allows h) h.mf_Kinds_allows hr (by omega) rfl rfl rfl rfl rfl) (mth_cons (MthIn.at (ok_Between_allows h) h.mf_Between_allows hr (by omega) rfl rfl rfl rfl rfl) (mth_cons (MthIn.at (ok_Sizes_allows h) h.mf_Sizes_allows hr (by omega) rfl rfl rfl rfl rfl) (mth_cons (MthIn.at (ok_SamePlace_allows h) h.mf_SamePlace_allows hr (by omega) rfl rfl rfl rfl rfl) (mth_cons (MthIn.at (ok_Written_allows h) h.mf_Written_allows hr (by omega) rfl rfl rfl rfl rfl) mth_nil)))))))))) takes_no (se_var (pv 8)) (sae_cons (se_var (pv 5)) (sae_cons (se_var (pv 6)) sae_nil rfl) rfl) rfl rfl)) (by decide) rfl))) sa_nil rfl) rfl (by decide) (by decide))) (SE.pk (se_callB (bRepr_ok (un64 hr.units) hr.gd) (by rfl) h.b_repr (by rfl) (sa_cons (sp_var (pv 7)) sa_nil rfl) rfl (by decide) (by decide))) rfl) (sb_cons (ss_ret se_bl) sb_nil) sb_nil) (sb_cons (ss_par2 (i := 10) (j := 11) rfl sc.nd rfl rfl (by decide) rfl rfl (sae_cons (se_ix (SE.pk (se_ix (sp_var (pv 2)) (SE.pk (se_neg se_int)) rfl)) (SE.pk se_int) rfl) (sae_cons (se_ix (SE.pk (se_call (FnIn.at (ok__law_one h) hr (by omega) rfl rfl rfl rfl rfl) (by rfl) tk (sae_cons (se_var (pv 1)) (sae_cons (se_var (pv 2)) sae_nil rfl) rfl) rfl (by decide))) (SE.pk se_int) rfl) sae_nil rfl) rfl) rfl) (sb_cons (ss_set sc.nd rfl (by first | exact Or.inl rfl | exact Or.inr rfl) rfl (se_fz (sf_lst (sae_cons (se_tup (sae_cons (se_inv (MthIn.un (ok_Rule___invert__ h) h.op_invert hr (by omega) rfl rfl rfl rfl rfl) (se_inv (MthIn.un (ok_Rule___invert__ h) h.op_invert hr (by omega) rfl rfl rfl rfl rfl) (se_var (pv 10)))) (sae_cons (se_var (pv 10)) sae_nil rfl) rfl)) (sae_cons (se_tup (sae_cons (se_opI (op := .Sub) (Or.inr (Or.inr rfl)) (MthIn.op (nm := "sub") (ok_Rule___sub__ h) h.op_sub hr (by omega) rfl rfl rfl rfl rfl) (se_var (pv 10)) (se_var (pv 11))) (sae_cons (se_opI (op := .BitAnd) (Or.inl rfl) (MthIn.op (nm := "and") (ok_Rule___and__ h) h.op_and hr (by omega) rfl rfl rfl rfl rfl) (se_var (pv 10)) (se_inv (MthIn.un (ok_Rule___invert__ h) h.op_invert hr (by omega) rfl rfl rfl rfl rfl) (se_var (pv 11)))) sae_nil rfl) rfl)) (sae_cons (se_tup (sae_cons (se_inv (MthIn.un (ok_Rule___invert__ h) h.op_invert hr (by omega) rfl rfl rfl rfl rfl) (se_opI (op := .BitOr) (Or.inr (Or.inl rfl)) (MthIn.op (nm := "or") (ok_Rule___or__ h) h.op_or hr (by omega) rfl rfl rfl rfl rfl) (se_var (pv 10)) (se_var (pv 11)))) (sae_cons (se_opI (op := .BitAnd) (Or.inl rfl) (MthIn.op (nm := "and") (ok_Rule___and__ h) h.op_and hr (by omega) rfl rfl rfl rfl rfl) (se_inv (MthIn.un (ok_Rule___invert__ h) h.op_invert hr (by omega) rfl rfl rfl rfl rfl) (se_var (pv 10))) (se_inv (MthIn.un (ok_Rule___invert__ h) h.op_invert hr (by omega) rfl rfl rfl rfl rfl) (se_var (pv 11)))) sae_nil rfl) rfl)) (sae_cons (se_tup (sae_cons (se_opI (op := .BitOr) (Or.inr (Or.inl rfl)) (MthIn.op (nm := "or") (ok_Rule___or__ h) h.op_or hr (by omega) rfl rfl rfl rfl rfl) (se_var (pv 10)) (se_var (pv 11))) (sae_cons (se_opI (op := .BitOr) (Or.inr (Or.inl rfl)) (MthIn.op (nm := "or") (ok_Rule___or__ h) h.op_or hr (by omega) rfl rfl rfl rfl rfl) (se_var (pv 11)) (se_var (pv 10))) sae_nil rfl) rfl)) (sae_cons (se_tup (sae_cons (se_opI (op := .BitAnd) (Or.inl rfl) (MthIn.op (nm := "and") (ok_Rule___and__ h) h.op_and hr (by omega) rfl rfl rfl rfl rfl) (se_var (pv 10)) (se_opI (op := .BitOr) (Or.inr (Or.inl rfl)) (MthIn.op (nm := "or") (ok_Rule___or__ h) h.op_or hr (by omega) rfl rfl rfl rfl rfl) (se_var (pv 10)) (se_var (pv 11)))) (sae_cons (se_var (pv 10)) sae_nil rfl) rfl)) sae_nil rfl) rfl) rfl) rfl) rfl))) rfl) (sb_cons (ss_if (st_not (st_truth (SE.pk (se_callB (bAll_ok rfl) (by rfl) h.b_all (by rfl) (sa_cons (SE.pk (se_fz (sf_lc rfl sc.nd (si_val md_e (sp_var (pv 12))) (blkOk_by (own := [("_law_one_here", 13), ("_law_other", 14)]) (by rfl)) (fun _ _ _ _ _ => (sg_tup rfl (sgs_cons (sg_name (pg_name sc.nd rfl (by first | exact Or.inl rfl | exact Or.inr rfl))) (sgs_cons (sg_name (pg_name sc.nd rfl (by first | exact Or.inl rfl | exact Or.inr rfl))) sgs_nil rfl) rfl) rfl rfl)) (fun _ _ _ _ _ => sts_nil) (fun _ _ _ _ _ => (se_call (FnIn.at (ok__law_same h) hr (by omega) rfl rfl rfl rfl rfl) (by rfl) takes_no (sae_cons (se_var (pv 13)) (sae_cons (se_var (pv 14)) (sae_cons (se_var (pv 5)) (sae_cons (se_var (pv 6)) sae_nil rfl) rfl) rfl) rfl) rfl (by decide))) (by decide) rfl))) sa_nil rfl) rfl (by decide) (by decide))) rfl)) (sb_cons (ss_ret se_bl) sb_nil) sb_nil) sb_nil))))))) rfl) (sb_cons (ss_ret se_bl) sb_nil)))))
end
end Lw
set_option Elab.async false
set_option linter.all false
set_option maxRecDepth 100000
set_option maxHeartbeats 0
namespace Lw
open PySem PySem.Spec PyProof.Rows L2 TL Rf
def dfs : List He.DefD := [⟨("_law_deck", none), "_law_deck", "_law_deck", defArgs (top 12), defBody (top 12), defScope (top 12), [], []⟩, ⟨("_law_draw", none), "_law_draw", "_law_draw", defArgs (top 13), defBody (top 13), defScope (top 13), [], []⟩, ⟨("_law_one", none), "_law_one", "_law_one", defArgs (top 14), defBody (top 14), defScope (top 14), [], []⟩, ⟨("Kinds", some "__init__"), "__init__", "Kinds.__init__", defArgs (mthOf 0 (top 6)), defBody (mthOf 0 (top 6)), defScope (mthOf 0 (top 6)), [], []⟩, ⟨("_law_kinds", none), "_law_kinds", "_law_kinds", defArgs (top 16), defBody (top 16), defScope (top 16), [], []⟩, ⟨("Between", some "__init__"), "__init__", "Between.__init__", defArgs (mthOf 0 (top 7)), defBody (mthOf 0 (top 7)), defScope (mthOf 0 (top 7)), [], []⟩, ⟨("Sizes", some "__init__"), "__init__", "Sizes.__init__", defArgs (mthOf 0 (top 8)), defBody (mthOf 0 (top 8)), defScope (mthOf 0 (top 8)), [], []⟩, ⟨("_law_basic", none), "_law_basic", "_law_basic", defArgs (top 17), defBody (top 17), defScope (top 17), [], []⟩, ⟨("_law_marks", none), "_law_marks", "_law_marks", defArgs (top 15), defBody (top 15), defScope (top 15), [], []⟩, ⟨("_law_lets", none), "_law_lets", "_law_lets", defArgs (top 18), defBody (top 18), defScope (top 18), [], []⟩, ⟨("_law_truths", none), "_law_truths", "_law_truths", defArgs (top 20), defBody (top 20), defScope (top 20), [], []⟩, ⟨("Other", some "__init__"), "__init__", "Other.__init__", defArgs (mthOf 0 (top 4)), defBody (mthOf 0 (top 4)), defScope (mthOf 0 (top 4)), [], []⟩, ⟨("Rule", some "__invert__"), "__invert__", "Rule.__invert__", defArgs (mthOf 5 (top 1)), defBody (mthOf 5 (top 1)), defScope (mthOf 5 (top 1)), [], []⟩, ⟨("Both", some "__init__"), "__init__", "Both.__init__", defArgs (mthOf 0 (top 2)), defBody (mthOf 0 (top 2)), defScope (mthOf 0 (top 2)), [], []⟩, ⟨("Rule", some "__and__"), "__and__", "Rule.__and__", defArgs (mthOf 2 (top 1)), defBody (mthOf 2 (top 1)), defScope (mthOf 2 (top 1)), [], []⟩, ⟨("Either", some "__init__"), "__init__", "Either.__init__", defArgs (mthOf 0 (top 3)), defBody (mthOf 0 (top 3)), defScope (mthOf 0 (top 3)), [], []⟩, ⟨("Rule", some "__or__"), "__or__", "Rule.__or__", defArgs (mthOf 3 (top 1)), defBody (mthOf 3 (top 1)), defScope (mthOf 3 (top 1)), [], []⟩, ⟨("Rule", some "__sub__"), "__sub__", "Rule.__sub__", defArgs (mthOf 4 (top 1)), defBody (mthOf 4 (top 1)), defScope (mthOf 4 (top 1)), [], []⟩, ⟨("_law_joined", none), "_law_joined", "_law_joined", defArgs (top 19), defBody (top 19), defScope (top 19), [], []⟩, ⟨("Rule", some "allows"), "allows", "Rule.allows", defArgs (mthOf 0 (top 1)), defBody (mthOf 0 (top 1)), defScope (mthOf 0 (top 1)), [], []⟩, ⟨("Always", some "allows"), "allows", "Always.allows", defArgs (mthOf 0 (top 5)), defBody (mthOf 0 (top 5)), defScope (mthOf 0 (top 5)), [], []⟩, ⟨("Kinds", some "allows"), "allows", "Kinds.allows", defArgs (mthOf 1 (top 6)), defBody (mthOf 1 (top 6)), defScope (mthOf 1 (top 6)), [], []⟩, ⟨("Between", some "allows"), "allows", "Between.allows", defArgs (mthOf 1 (top 7)), defBody (mthOf 1 (top 7)), defScope (mthOf 1 (top 7)), [], []⟩, ⟨("Sizes", some "allows"), "allows", "Sizes.allows", defArgs (mthOf 1 (top 8)), defBody (mthOf 1 (top 8)), defScope (mthOf 1 (top 8)), [], []⟩, ⟨("SamePlace", some "allows"), "allows", "SamePlace.allows", defArgs (mthOf 0 (top 9)), defBody (mthOf 0 (top 9)), defScope (mthOf 0 (top 9)), [], []⟩, ⟨("Written", some "allows"), "allows", "Written.allows", defArgs (mthOf 0 (top 10)), defBody (mthOf 0 (top 10)), defScope (mthOf 0 (top 10)), [], []⟩, ⟨("Both", some "allows"), "allows", "Both.allows", defArgs (mthOf 1 (top 2)), defBody (mthOf 1 (top 2)), defScope (mthOf 1 (top 2)), [], []⟩, ⟨("Either", some "allows"), "allows", "Either.allows", defArgs (mthOf 1 (top 3)), defBody (mthOf 1 (top 3)), defScope (mthOf 1 (top 3)), [], []⟩, ⟨("Other", some "allows"), "allows", "Other.allows", defArgs (mthOf 1 (top 4)), defBody (mthOf 1 (top 4)), defScope (mthOf 1 (top 4)), [], []⟩, ⟨("Rule", some "__call__"), "__call__", "Rule.__call__", defArgs (mthOf 1 (top 1)), defBody (mthOf 1 (top 1)), defScope (mthOf 1 (top 1)), [], []⟩, ⟨("_law_same", none), "_law_same", "_law_same", defArgs (top 21), defBody (top 21), defScope (top 21), [], []⟩, ⟨("law", none), "law", "law", defArgs (top 22), defBody (top 22), defScope (top 22), [], []⟩]
def fas : List He.Fa := [.glo "_law_deck", .glo "_law_draw", .glo "_law_one", .glo "_law_kinds", .glo "_law_basic", .glo "_law_marks", .glo "_law_lets", .glo "_law_truths", .glo "_law_joined", .glo "_law_same", .glo "law", .glo "Always", .glo "Between", .glo "Both", .glo "Either", .glo "Kinds", .glo "Other", .glo "Rule", .glo "SamePlace", .glo "Sizes", .glo "Written", .cls "Rule", .cls "Both", .cls "Either", .cls "Other", .cls "Always", .cls "Kinds", .cls "Between", .cls "Sizes", .cls "SamePlace", .cls "Written", .noat "Rule" "first_rule", .noat "Rule" "high", .noat "Rule" "kinds", .noat "Rule" "low", .noat "Rule" "most", .noat "Rule" "second_rule", .noat "Rule" "turned_rule", .noat "Both" "first_rule", .noat "Both" "high", .noat "Both" "kinds", .noat "Both" "low", .noat "Both" "most", .noat "Both" "second_rule", .noat "Both" "turned_rule", .noat "Either" "first_rule", .noat "Either" "high", .noat "Either" "kinds", .noat "Either" "low", .noat "Either" "most", .noat "Either" "second_rule", .noat "Either" "turned_rule", .noat "Other" "first_rule", .noat "Other" "high", .noat "Other" "kinds", .noat "Other" "low", .noat "Other" "most", .noat "Other" "second_rule", .noat "Other" "turned_rule", .noat "Always" "first_rule", .noat "Always" "high", .noat "Always" "kinds", .noat "Always" "low", .noat "Always" "most", .noat "Always" "second_rule", .noat "Always" "turned_rule", .noat "Kinds" "first_rule", .noat "Kinds" "high", .noat "Kinds" "kinds", .noat "Kinds" "low", .noat "Kinds" "most", .noat "Kinds" "second_rule", .noat "Kinds" "turned_rule", .noat "Between" "first_rule", .noat "Between" "high", .noat "Between" "kinds", .noat "Between" "low", .noat "Between" "most", .noat "Between" "second_rule", .noat "Between" "turned_rule", .noat "Sizes" "first_rule", .noat "Sizes" "high", .noat "Sizes" "kinds", .noat "Sizes" "low", .noat "Sizes" "most", .noat "Sizes" "second_rule", .noat "Sizes" "turned_rule", .noat "SamePlace" "first_rule", .noat "SamePlace" "high", .noat "SamePlace" "kinds", .noat "SamePlace" "low", .noat "SamePlace" "most", .noat "SamePlace" "second_rule", .noat "SamePlace" "turned_rule", .noat "Written" "first_rule", .noat "Written" "high", .noat "Written" "kinds", .noat "Written" "low", .noat "Written" "most", .noat "Written" "second_rule", .noat "Written" "turned_rule", .meth "Always" "allows", .meth "Between" "allows", .meth "Both" "allows", .meth "Either" "allows", .meth "Kinds" "allows", .meth "Other" "allows", .meth "Rule" "allows", .meth "SamePlace" "allows", .meth "Sizes" "allows", .meth "Written" "allows", .mkr "Between", .mkr "Both", .mkr "Either", .mkr "Kinds", .mkr "Other", .mkr "Sizes", .free "abs", .free "all", .free "int", .free "len", .free "max", .free "range", .free "repr"]
def tbs : List He.Tab := []
def sfs : List (He.DefD) := []
def ckk (K : PySem.W.Frag) : Bool := (opsB K ["Rule", "Both", "Either", "Other", "Always", "Kinds", "Between", "Sizes", "SamePlace", "Written"] "and" (He.ma K (He.ga K "Rule") "__and__")) && (unsB K ["Rule", "Both", "Either", "Other", "Always", "Kinds", "Between", "Sizes", "SamePlace", "Written"] (He.ma K (He.ga K "Rule") "__invert__")) && (opsB K ["Rule", "Both", "Either", "Other", "Always", "Kinds", "Between", "Sizes", "SamePlace", "Written"] "or" (He.ma K (He.ga K "Rule") "__or__")) && (opsB K ["Rule", "Both", "Either", "Other", "Always", "Kinds", "Between", "Sizes", "SamePlace", "Written"] "sub" (He.ma K (He.ga K "Rule") "__sub__")) && (decide (He.ma K (He.ga K "Always") "allows" = He.ma K (He.ga K "Always") "allows")) && (decide (He.ma K (He.ga K "Between") "allows" = He.ma K (He.ga K "Between") "allows")) && (decide (He.ma K (He.ga K "Both") "allows" = He.ma K (He.ga K "Both") "allows")) && (decide (He.ma K (He.ga K "Either") "allows" = He.ma K (He.ga K "Either") "allows")) && (decide (He.ma K (He.ga K "Kinds") "allows" = He.ma K (He.ga K "Kinds") "allows")) && (decide (He.ma K (He.ga K "Other") "allows" = He.ma K (He.ga K "Other") "allows")) && (decide (He.ma K (He.ga K "Rule") "allows" = He.ma K (He.ga K "Rule") "allows")) && (decide (He.ma K (He.ga K "SamePlace") "allows" = He.ma K (He.ga K "SamePlace") "allows")) && (decide (He.ma K (He.ga K "Sizes") "allows" = He.ma K (He.ga K "Sizes") "allows")) && (decide (He.ma K (He.ga K "Written") "allows" = He.ma K (He.ga K "Written") "allows")) && (decide (He.ma K (He.ga K "Between") "__init__" = He.ma K (He.ga K "Between") "__init__")) && (decide (He.ma K (He.ga K "Both") "__init__" = He.ma K (He.ga K "Both") "__init__")) && (decide (He.ma K (He.ga K "Either") "__init__" = He.ma K (He.ga K "Either") "__init__")) && (decide (He.ma K (He.ga K "Kinds") "__init__" = He.ma K (He.ga K "Kinds") "__init__")) && (decide (He.ma K (He.ga K "Other") "__init__" = He.ma K (He.ga K "Other") "__init__")) && (decide (He.ma K (He.ga K "Sizes") "__init__" = He.ma K (He.ga K "Sizes") "__init__")) && (mk0B K "Always") && (mk0B K "Rule") && (mk0B K "SamePlace") && (mk0B K "Written") && (calB K "Always" "Rule") && (calB K "Between" "Rule") && (calB K "Both" "Rule") && (calB K "Either" "Rule") && (calB K "Kinds" "Rule") && (calB K "Other" "Rule") && (calB K "Rule" "Rule") && (calB K "SamePlace" "Rule") && (calB K "Sizes" "Rule") && (calB K "Written" "Rule")
abbrev Rw : PySem.W.OpenRow := PySem.W.OpenLaw.row PySem.Challenge.rw_maybesame_k44_whole_rules_as_an_algebra
abbrev hk : PySem.W.Hook := hookS 6 fas dfs sfs tbs ckk
def ob (s : PySem.W.SharedT) : He.AlT × Bool × List FnS := obS 6 fas dfs sfs tbs ckk (HandSHeadRun.getT s)
theorem ob_eq (s : PySem.W.SharedT) : ob s = hk.obs s.abs := obS_eq (HandSHeadRun.getT_eq s)
def loose : List Str := (["_law_deck", "_law_draw", "_law_one", "_law_marks", "_law_kinds", "_law_basic", "_law_lets", "_law_joined", "_law_truths", "_law_same", "Rule", "Both", "Either", "Other", "Always", "Kinds"] : List Str) ++ (["Between", "Sizes", "SamePlace", "Written"] : List Str)
theorem run (w : World) : HandSHeadRun.RunEq Rw (PySem.W.view Rw.prog [22]) hk ob 9000 loose w := by
  intro os
  kernel_rfl
theorem facts {w : World} {K : PySem.W.Frag} {h : Heap} {mg : Str → Option Value} (X : K.In h) (G : h.Ns mainGlobals mg) (c : He.SaysT fas dfs tbs w K) (ck : ckk K = true) (sy : (sfs.map fun d => fnS K d.at_) = sfs.map valS) : Fc (PySem.Challenge.rw_maybesame_k44_whole_rules_as_an_algebra).prog w K mg := by
  have cd := c.d
  unfold ckk at ck
  simp only [Bool.and_eq_true] at ck
  obtain ⟨⟨⟨⟨⟨⟨⟨⟨⟨⟨⟨⟨⟨⟨⟨⟨⟨⟨⟨⟨⟨⟨⟨⟨⟨⟨⟨⟨⟨⟨⟨⟨⟨q0, q1⟩, q2⟩, q3⟩, q4⟩, q5⟩, q6⟩, q7⟩, q8⟩, q9⟩, q10⟩, q11⟩, q12⟩, q13⟩, q14⟩, q15⟩, q16⟩, q17⟩, q18⟩, q19⟩, q20⟩, q21⟩, q22⟩, q23⟩, q24⟩, q25⟩, q26⟩, q27⟩, q28⟩, q29⟩, q30⟩, q31⟩, q32⟩, q33⟩ := ck
  refine ⟨?_, ?_, ?_, ?_, ?_, ?_, ?_, ?_, ?_, ?_, ?_, ?_, ?_, ?_, ?_, ?_, ?_, ?_, ?_, ?_, ?_, ?_, ?_, ?_, ?_, ?_, ?_, ?_, ?_, ?_, ?_, ?_, ?_, ?_, ?_, ?_, ?_, ?_, ?_, ?_, ?_, ?_, ?_, ?_, ?_, ?_, ?_, ?_, ?_, ?_, ?_, ?_, ?_, ?_, ?_, ?_, ?_, ?_, ?_, ?_, ?_, ?_, ?_, ?_, ?_, ?_, ?_, ?_, ?_, ?_, ?_, ?_, ?_, ?_, ?_, ?_, ?_, ?_, ?_, ?_⟩
  · exact def_at X G cd (by simp [dfs]) (by simp [fas])
  · exact def_at X G cd (by simp [dfs]) (by simp [fas])
  · exact def_at X G cd (by simp [dfs]) (by simp [fas])
  · exact mdef_at cd (by simp [dfs])
  · exact def_at X G cd (by simp [dfs]) (by simp [fas])
  · exact mdef_at cd (by simp [dfs])
  · exact mdef_at cd (by simp [dfs])
  · exact def_at X G cd (by simp [dfs]) (by simp [fas])
  · exact def_at X G cd (by simp [dfs]) (by simp [fas])
  · exact def_at X G cd (by simp [dfs]) (by simp [fas])
  · exact def_at X G cd (by simp [dfs]) (by simp [fas])
  · exact mdef_at cd (by simp [dfs])
  · exact mdef_at cd (by simp [dfs])
  · exact mdef_at cd (by simp [dfs])
  · exact mdef_at cd (by simp [dfs])
  · exact mdef_at cd (by simp [dfs])
  · exact mdef_at cd (by simp [dfs])
  · exact mdef_at cd (by simp [dfs])
  · exact def_at X G cd (by simp [dfs]) (by simp [fas])
  · exact mdef_at cd (by simp [dfs])
  · exact mdef_at cd (by simp [dfs])
  · exact mdef_at cd (by simp [dfs])
  · exact mdef_at cd (by simp [dfs])
  · exact mdef_at cd (by simp [dfs])
  · exact mdef_at cd (by simp [dfs])
  · exact mdef_at cd (by simp [dfs])
  · exact mdef_at cd (by simp [dfs])
  · exact mdef_at cd (by simp [dfs])
  · exact mdef_at cd (by simp [dfs])
  · exact mdef_at cd (by simp [dfs])
  · exact def_at X G cd (by simp [dfs]) (by simp [fas])
  · exact def_at X G cd (by simp [dfs]) (by simp [fas])
  · exact (fldK_cons (fld_at X G cd (by simp [fas]) (by simp [fas]) (by simp [fas])) (fldK_cons (fld_at X G cd (by simp [fas]) (by simp [fas]) (by simp [fas])) (fldK_cons (fld_at X G cd (by simp [fas]) (by simp [fas]) (by simp [fas])) (fldK_cons (fld_at X G cd (by simp [fas]) (by simp [fas]) (by simp [fas])) (fldK_cons (fld_at X G cd (by simp [fas]) (by simp [fas]) (by simp [fas])) (fldK_cons (fld_at X G cd (by simp [fas]) (by simp [fas]) (by simp [fas])) (fldK_cons (fld_at X G cd (by simp [fas]) (by simp [fas]) (by simp [fas])) (fldK_cons (fld_at X G cd (by simp [fas]) (by simp [fas]) (by simp [fas])) (fldK_cons (fld_at X G cd (by simp [fas]) (by simp [fas]) (by simp [fas])) (fldK_cons (fld_at X G cd (by simp [fas]) (by simp [fas]) (by simp [fas])) fldK_nil))))))))))
  · exact (fldK_cons (fld_at X G cd (by simp [fas]) (by simp [fas]) (by simp [fas])) (fldK_cons (fld_at X G cd (by simp [fas]) (by simp [fas]) (by simp [fas])) (fldK_cons (fld_at X G cd (by simp [fas]) (by simp [fas]) (by simp [fas])) (fldK_cons (fld_at X G cd (by simp [fas]) (by simp [fas]) (by simp [fas])) (fldK_cons (fld_at X G cd (by simp [fas]) (by simp [fas]) (by simp [fas])) (fldK_cons (fld_at X G cd (by simp [fas]) (by simp [fas]) (by simp [fas])) (fldK_cons (fld_at X G cd (by simp [fas]) (by simp [fas]) (by simp [fas])) (fldK_cons (fld_at X G cd (by simp [fas]) (by simp [fas]) (by simp [fas])) (fldK_cons (fld_at X G cd (by simp [fas]) (by simp [fas]) (by simp [fas])) (fldK_cons (fld_at X G cd (by simp [fas]) (by simp [fas]) (by simp [fas])) fldK_nil))))))))))
  · exact (fldK_cons (fld_at X G cd (by simp [fas]) (by simp [fas]) (by simp [fas])) (fldK_cons (fld_at X G cd (by simp [fas]) (by simp [fas]) (by simp [fas])) (fldK_cons (fld_at X G cd (by simp [fas]) (by simp [fas]) (by simp [fas])) (fldK_cons (fld_at X G cd (by simp [fas]) (by simp [fas]) (by simp [fas])) (fldK_cons (fld_at X G cd (by simp [fas]) (by simp [fas]) (by simp [fas])) (fldK_cons (fld_at X G cd (by simp [fas]) (by simp [fas]) (by simp [fas])) (fldK_cons (fld_at X G cd (by simp [fas]) (by simp [fas]) (by simp [fas])) (fldK_cons (fld_at X G cd (by simp [fas]) (by simp [fas]) (by simp [fas])) (fldK_cons (fld_at X G cd (by simp [fas]) (by simp [fas]) (by simp [fas])) (fldK_cons (fld_at X G cd (by simp [fas]) (by simp [fas]) (by simp [fas])) fldK_nil))))))))))
  · exact (fldK_cons (fld_at X G cd (by simp [fas]) (by simp [fas]) (by simp [fas])) (fldK_cons (fld_at X G cd (by simp [fas]) (by simp [fas]) (by simp [fas])) (fldK_cons (fld_at X G cd (by simp [fas]) (by simp [fas]) (by simp [fas])) (fldK_cons (fld_at X G cd (by simp [fas]) (by simp [fas]) (by simp [fas])) (fldK_cons (fld_at X G cd (by simp [fas]) (by simp [fas]) (by simp [fas])) (fldK_cons (fld_at X G cd (by simp [fas]) (by simp [fas]) (by simp [fas])) (fldK_cons (fld_at X G cd (by simp [fas]) (by simp [fas]) (by simp [fas])) (fldK_cons (fld_at X G cd (by simp [fas]) (by simp [fas]) (by simp [fas])) (fldK_cons (fld_at X G cd (by simp [fas]) (by simp [fas]) (by simp [fas])) (fldK_cons (fld_at X G cd (by simp [fas]) (by simp [fas]) (by simp [fas])) fldK_nil))))))))))
  · exact (fldK_cons (fld_at X G cd (by simp [fas]) (by simp [fas]) (by simp [fas])) (fldK_cons (fld_at X G cd (by simp [fas]) (by simp [fas]) (by simp [fas])) (fldK_cons (fld_at X G cd (by simp [fas]) (by simp [fas]) (by simp [fas])) (fldK_cons (fld_at X G cd (by simp [fas]) (by simp [fas]) (by simp [fas])) (fldK_cons (fld_at X G cd (by simp [fas]) (by simp [fas]) (by simp [fas])) (fldK_cons (fld_at X G cd (by simp [fas]) (by simp [fas]) (by simp [fas])) (fldK_cons (fld_at X G cd (by simp [fas]) (by simp [fas]) (by simp [fas])) (fldK_cons (fld_at X G cd (by simp [fas]) (by simp [fas]) (by simp [fas])) (fldK_cons (fld_at X G cd (by simp [fas]) (by simp [fas]) (by simp [fas])) (fldK_cons (fld_at X G cd (by simp [fas]) (by simp [fas]) (by simp [fas])) fldK_nil))))))))))
  · exact (fldK_cons (fld_at X G cd (by simp [fas]) (by simp [fas]) (by simp [fas])) (fldK_cons (fld_at X G cd (by simp [fas]) (by simp [fas]) (by simp [fas])) (fldK_cons (fld_at X G cd (by simp [fas]) (by simp [fas]) (by simp [fas])) (fldK_cons (fld_at X G cd (by simp [fas]) (by simp [fas]) (by simp [fas])) (fldK_cons (fld_at X G cd (by simp [fas]) (by simp [fas]) (by simp [fas])) (fldK_cons (fld_at X G cd (by simp [fas]) (by simp [fas]) (by simp [fas])) (fldK_cons (fld_at X G cd (by simp [fas]) (by simp [fas]) (by simp [fas])) (fldK_cons (fld_at X G cd (by simp [fas]) (by simp [fas]) (by simp [fas])) (fldK_cons (fld_at X G cd (by simp [fas]) (by simp [fas]) (by simp [fas])) (fldK_cons (fld_at X G cd (by simp [fas]) (by simp [fas]) (by simp [fas])) fldK_nil))))))))))
  · exact (fldK_cons (fld_at X G cd (by simp [fas]) (by simp [fas]) (by simp [fas])) (fldK_cons (fld_at X G cd (by simp [fas]) (by simp [fas]) (by simp [fas])) (fldK_cons (fld_at X G cd (by simp [fas]) (by simp [fas]) (by simp [fas])) (fldK_cons (fld_at X G cd (by simp [fas]) (by simp [fas]) (by simp [fas])) (fldK_cons (fld_at X G cd (by simp [fas]) (by simp [fas]) (by simp [fas])) (fldK_cons (fld_at X G cd (by simp [fas]) (by simp [fas]) (by simp [fas])) (fldK_cons (fld_at X G cd (by simp [fas]) (by simp [fas]) (by simp [fas])) (fldK_cons (fld_at X G cd (by simp [fas]) (by simp [fas]) (by simp [fas])) (fldK_cons (fld_at X G cd (by simp [fas]) (by simp [fas]) (by simp [fas])) (fldK_cons (fld_at X G cd (by simp [fas]) (by simp [fas]) (by simp [fas])) fldK_nil))))))))))
  · exact mthF_at X G cd (by simp [fas]) (by simp [fas]) (by simp [fas]) (by first | exact q4 | exact decide_eq_true rfl)
  · exact mthF_at X G cd (by simp [fas]) (by simp [fas]) (by simp [fas]) (by first | exact q5 | exact decide_eq_true rfl)
  · exact mthF_at X G cd (by simp [fas]) (by simp [fas]) (by simp [fas]) (by first | exact q6 | exact decide_eq_true rfl)
  · exact mthF_at X G cd (by simp [fas]) (by simp [fas]) (by simp [fas]) (by first | exact q7 | exact decide_eq_true rfl)
  · exact mthF_at X G cd (by simp [fas]) (by simp [fas]) (by simp [fas]) (by first | exact q8 | exact decide_eq_true rfl)
  · exact mthF_at X G cd (by simp [fas]) (by simp [fas]) (by simp [fas]) (by first | exact q9 | exact decide_eq_true rfl)
  · exact mthF_at X G cd (by simp [fas]) (by simp [fas]) (by simp [fas]) (by first | exact q10 | exact decide_eq_true rfl)
  · exact mthF_at X G cd (by simp [fas]) (by simp [fas]) (by simp [fas]) (by first | exact q11 | exact decide_eq_true rfl)
  · exact mthF_at X G cd (by simp [fas]) (by simp [fas]) (by simp [fas]) (by first | exact q12 | exact decide_eq_true rfl)
  · exact mthF_at X G cd (by simp [fas]) (by simp [fas]) (by simp [fas]) (by first | exact q13 | exact decide_eq_true rfl)
  · exact mkF_at X G cd (by simp [fas]) (by simp [fas]) (by first | exact q14 | exact decide_eq_true rfl)
  · exact mkF_at X G cd (by simp [fas]) (by simp [fas]) (by first | exact q15 | exact decide_eq_true rfl)
  · exact mkF_at X G cd (by simp [fas]) (by simp [fas]) (by first | exact q16 | exact decide_eq_true rfl)
  · exact mkF_at X G cd (by simp [fas]) (by simp [fas]) (by first | exact q17 | exact decide_eq_true rfl)
  · exact mkF_at X G cd (by simp [fas]) (by simp [fas]) (by first | exact q18 | exact decide_eq_true rfl)
  · exact mkF_at X G cd (by simp [fas]) (by simp [fas]) (by first | exact q19 | exact decide_eq_true rfl)
  · exact mk0F_at X G cd (by simp [fas]) q20
  · exact mk0F_at X G cd (by simp [fas]) q21
  · exact mk0F_at X G cd (by simp [fas]) q22
  · exact mk0F_at X G cd (by simp [fas]) q23
  · exact calB_ok X G q24
  · exact calB_ok X G q25
  · exact calB_ok X G q26
  · exact calB_ok X G q27
  · exact calB_ok X G q28
  · exact calB_ok X G q29
  · exact calB_ok X G q30
  · exact calB_ok X G q31
  · exact calB_ok X G q32
  · exact calB_ok X G q33
  · exact free_at X G cd (by simp [fas])
  · exact free_at X G cd (by simp [fas])
  · exact free_at X G cd (by simp [fas])
  · exact free_at X G cd (by simp [fas])
  · exact free_at X G cd (by simp [fas])
  · exact free_at X G cd (by simp [fas])
  · exact free_at X G cd (by simp [fas])
  · exact opsB_ok X G q0
  · exact unsB_ok X G q1
  · exact opsB_ok X G q2
  · exact opsB_ok X G q3
end Lw
set_option Elab.async false
set_option linter.all false
set_option maxRecDepth 100000
set_option maxHeartbeats 0
open PySem PySem.W PySem.Calls PyProof.Rows
theorem Lw.cw_of (law : ∀ ns : List Int, ns.length ≤ 63 → ∃ S, Lw.c_law [.scr ns] [] = .ok (.bl true) S) : PySem.Challenge.rw_maybesame_k44_whole_rules_as_an_algebra.Holds := by
  w_on; o_law
  refine HandSHeadRun.head_any (r := OpenLaw.row PySem.Challenge.rw_maybesame_k44_whole_rules_as_an_algebra) (q := view (OpenLaw.row PySem.Challenge.rw_maybesame_k44_whole_rules_as_an_algebra).prog [22]) (H := Lw.hk) (ob := Lw.ob) (M := 9000) (loose := Lw.loose) (d := HandSHeadRun.topDef (OpenLaw.row PySem.Challenge.rw_maybesame_k44_whole_rules_as_an_algebra).prog 22) (kwd := []) Lw.ob_eq
    (by kernel_rfl) (fun s => by kernel_rfl) Lw.run (by kernel_rfl) (by kernel_rfl) (by kernel_rfl) (by rfl) (by first | assumption | decide +kernel) (by decide +kernel) ⟨rfl, rfl, rfl, rfl, rfl, by decide +kernel⟩ ?hw ?hc
  case hw => w_witness2
  case hc =>
    refine Rf.rf_walk (l := PySem.Challenge.rw_maybesame_k44_whole_rules_as_an_algebra) (n := 63) (k := 45) (x := "_law_script") (c := Lw.c_law) rfl (by decide) (by kernel_rfl) ⟨⟨rfl, by decide, by decide⟩, rfl⟩ ?F law
    intro w mg fa h Y G hmg0
    obtain ⟨K, KX, c, ck, sy⟩ := Y
    have hmg : mg ("law" : PySem.Str) = some (.ref fa) := by
      have e : (HandSHeadRun.topDef (OpenLaw.row PySem.Challenge.rw_maybesame_k44_whole_rules_as_an_algebra).prog 22).name = ("law" : PySem.Str) := by kernel_rfl
      rw [← e]
      exact hmg0
    have fc := Lw.facts KX G c ck sy
    obtain ⟨f1, fd1, F1, g1⟩ := fc.d_law
    have e1 : f1 = fa := by
      rw [hmg] at g1
      cases g1; rfl
    subst e1
    exact ⟨K, fd1, KX, fun s v => L2.FunD.bindsA (ps := ["_law_script"]) F1 (fun _ _ _ _ _ _ us hl => match us, hl with | [_], _ => rfl) s [v] rfl, fun base => Lw.okf_law fc F1⟩
set_option Elab.async false
set_option linter.all false
set_option maxRecDepth 100000
set_option maxHeartbeats 0
namespace Rf
open PySem PySem.Spec PyProof.Rows L2 TL Rf
section
variable {T S : Sto} {n : Nat}
theorem Deck.app {G : Sto} (h : Deck T n S) : Deck (T ++ G) n (S ++ G) := by
  obtain ⟨cs, c, rfl, h⟩ := h
  exact ⟨cs, c, rfl, h⟩
end
def DkE (n : Nat) (x0 x1 : O) : Prop := Deck [] n [x0, x1]
section
variable {n m : Nat} {x0 x1 : O} {T S : Sto}
theorem DkE.le (h : DkE n x0 x1) (e : m ≤ n) : DkE m x0 x1 := Deck.le h e
theorem DkE.deck (h : DkE n x0 x1) (T : Sto) : Deck T n (x0 :: x1 :: T) := Deck.app (G := T) h
theorem Deck.cut (h : Deck T n S) : ∃ x0 x1, S = x0 :: x1 :: T ∧ DkE n x0 x1 := by
  obtain ⟨cs, c, rfl, h⟩ := h
  exact ⟨_, _, rfl, cs, c, rfl, h⟩
theorem Deck.e (h : Deck T n (x0 :: x1 :: T)) : DkE n x0 x1 := by
  obtain ⟨cs, c, e, h⟩ := h
  have e1 := (List.cons.inj e).1
  have e2 := (List.cons.inj (List.cons.inj e).2).1
  rw [e1, e2]
  exact ⟨cs, c, rfl, h⟩
variable {P : D → Sto → Prop} {xp : ExP}
theorem w_draw3 {many : Int} (h : DkE (n + 1) x0 x1) (h0 : 0 < many) (hm : many.natAbs.log2 < 9000) (k : ∀ (r : Int) (x0 x1 : O), 0 ≤ r → r < many → DkE n x0 x1 → P (.int r) (x0 :: x1 :: T)) : wp (c__law_draw [.obj 1, .int many] (x0 :: x1 :: T)) P :=
  w_draw (h.deck T) h0 hm fun r S' h1 h2 h3 => by
    obtain ⟨y0, y1, rfl, h4⟩ := h3.cut
    exact k r y0 y1 h1 h2 h4
theorem w_one3 {xs : List D} (h : DkE (n + 1) x0 x1) (h0 : xs ≠ []) (hz : xs.length < 2 ^ 40) (k : ∀ (x : D) (x0 x1 : O), x ∈ xs → DkE n x0 x1 → P x (x0 :: x1 :: T)) : wp (c__law_one [.obj 1, .lst xs] (x0 :: x1 :: T)) P :=
  w_one (h.deck T) h0 hz fun r S' h1 h3 => by
    obtain ⟨y0, y1, rfl, h4⟩ := h3.cut
    exact k r y0 y1 h1 h4
end
theorem q_setC {i : Nat} {m : EM} {L : Ls} {S : Sto} {PS : Fl → Ls → Sto → Prop} {xp : ExP} (h : wp (m L S) fun d S1 => ∀ L', L.set i (.v d) = L' → PS .nx L' S1) : wps (sSet i m L S) PS := q_set (h.mono fun d S1 k => k _ rfl)
theorem q_tgC {t : Tg} {m : EM} {L : Ls} {S : Sto} {PS : Fl → Ls → Sto → Prop} {xp : ExP} (h : wp (m L S) fun d S1 => ∃ L1, tgA t d L = some L1 ∧ ∀ L', L1 = L' → PS .nx L' S1) : wps (sTg t m L S) PS := q_tg (h.mono fun d S1 ⟨L1, e, k⟩ => ⟨L1, e, k _ rfl⟩)
theorem q_par2C {i j : Nat} {ma : Ls → Sto → R (List D)} {L : Ls} {S : Sto} {PS : Fl → Ls → Sto → Prop} {xp : ExP} (h : wp (ma L S) fun ds S1 => ∃ x y, ds = [x, y] ∧ ∀ L', (L.set i (.v x)).set j (.v y) = L' → PS .nx L' S1) : wps (sPar2 i j ma L S) PS := q_par2 (h.mono fun ds S1 ⟨x, y, e, k⟩ => ⟨x, y, e, k _ rfl⟩)
theorem q_par3C {i j l : Nat} {ma : Ls → Sto → R (List D)} {L : Ls} {S : Sto} {PS : Fl → Ls → Sto → Prop} {xp : ExP} (h : wp (ma L S) fun ds S1 => ∃ x y z, ds = [x, y, z] ∧ ∀ L', ((L.set i (.v x)).set j (.v y)).set l (.v z) = L' → PS .nx L' S1) : wps (sPar3 i j l ma L S) PS := q_par3 (h.mono fun ds S1 ⟨x, y, z, e, k⟩ => ⟨x, y, z, e, k _ rfl⟩)
instance {i : Nat} {m : EM} {L : Ls} {S : Sto} {PS : Fl → Ls → Sto → Prop} {xp : ExP} : Ws (sSet i m L S) PS (wp (m L S) fun d S1 => ∀ L', L.set i (.v d) = L' → PS .nx L' S1) := ⟨q_setC⟩
instance {t : Tg} {m : EM} {L : Ls} {S : Sto} {PS : Fl → Ls → Sto → Prop} {xp : ExP} : Ws (sTg t m L S) PS (wp (m L S) fun d S1 => ∃ L1, tgA t d L = some L1 ∧ ∀ L', L1 = L' → PS .nx L' S1) := ⟨q_tgC⟩
instance {i j : Nat} {ma : Ls → Sto → R (List D)} {L : Ls} {S : Sto} {PS : Fl → Ls → Sto → Prop} {xp : ExP} : Ws (sPar2 i j ma L S) PS (wp (ma L S) fun ds S1 => ∃ x y, ds = [x, y] ∧ ∀ L', (L.set i (.v x)).set j (.v y) = L' → PS .nx L' S1) := ⟨q_par2C⟩
instance {i j l : Nat} {ma : Ls → Sto → R (List D)} {L : Ls} {S : Sto} {PS : Fl → Ls → Sto → Prop} {xp : ExP} : Ws (sPar3 i j l ma L S) PS (wp (ma L S) fun ds S1 => ∃ x y z, ds = [x, y, z] ∧ ∀ L', ((L.set i (.v x)).set j (.v y)).set l (.v z) = L' → PS .nx L' S1) := ⟨q_par3C⟩
theorem lsG {L : Ls} {P : Ls → Prop} (h : ∀ L', L = L' → P L') : ∀ L', L = L' → P L' := h
theorem ltG {a b : Nat} (h : a < b) : a < b := h
theorem stG {S : Sto} {P : Sto → Prop} (h : ∀ S', S = S' → P S') : ∀ S', S = S' → P S' := h
theorem ntG {n : Nat} {P : Nat → Prop} (h : ∀ n', n = n' → P n') : ∀ n', n = n' → P n' := h
theorem tgX {t : Tg} {d : D} {L : Ls} {Q : Ls → Prop} (L1 : Ls) (e : tgA t d L = some L1) (k : ∀ L', L1 = L' → Q L') : ∃ L1, tgA t d L = some L1 ∧ Q L1 := ⟨L1, e, k _ rfl⟩
section
variable {xp : ExP} {P : D → Sto → Prop} {PS : Fl → Ls → Sto → Prop} {L : Ls} {S : Sto} {a b c : EM} {ma : Ls → Sto → R (List D)} {i : Nat} {sb : SM} {all xs ds : List D} {d : D} {t : Tg}
theorem r_eNwC (h : wp (ma L S) fun ds S1 => ∀ n, S1.length = n → ∀ S', S1 ++ [.lst ds] = S' → P (.obj n) S') : wp (eNw ma L S) P := r_eNw (h.mono fun ds S1 k => k _ rfl _ rfl)
theorem r_nwKC (h : ∀ n, S.length = n → ∀ S', S ++ [.dK []] = S' → P (.obj n) S') : wp (eNwK L S) P := r_nwK (h _ rfl _ rfl)
theorem r_nwNC (h : ∀ n, S.length = n → ∀ S', S ++ [.dN []] = S' → P (.obj n) S') : wp (eNwN L S) P := r_nwN (h _ rfl _ rfl)
theorem q_appOC (h : wp (a L S) fun o S1 => ∃ n ds0, o = .obj n ∧ S1[n]? = some (.lst ds0) ∧ wp (b L S1) fun d S2 => ∃ ds, S2[n]? = some (.lst ds) ∧ ds.length < sizeLine ∧ ∀ S', S2.set n (.lst (ds ++ [d])) = S' → PS .nx L S') : wps (sAppO a b L S) PS :=
  q_appO (h.mono fun o S1 ⟨n, ds0, e, e1, k⟩ => ⟨n, ds0, e, e1, k.mono fun d S2 ⟨ds, e2, e3, k⟩ => ⟨ds, e2, e3, k _ rfl⟩⟩)
theorem q_putOC (h : wp (c L S) fun d S1 => wp (a L S1) fun o S2 => ∃ n, o = .obj n ∧ wp (b L S2) fun j S3 => ∃ k ds jj, j = .int k ∧ S3[n]? = some (.lst ds) ∧ ixN ds.length k = some jj ∧ ∀ S', S3.set n (.lst (ds.set jj d)) = S' → PS .nx L S') : wps (sPutO a b c L S) PS :=
  q_putO (h.mono fun d S1 k => k.mono fun o S2 ⟨n, e, k⟩ => ⟨n, e, k.mono fun j S3 ⟨q, ds, jj, e1, e2, e3, k⟩ => ⟨q, ds, jj, e1, e2, e3, k _ rfl⟩⟩)
theorem q_putDC (h : wp (c L S) fun d S1 => wp (a L S1) fun o S2 => wp (b L S2) fun y S3 => ∃ n q kvs, o = .obj n ∧ kKey y = some q ∧ S3[n]? = some (.dK kvs) ∧ kvs.length < sizeLine ∧ ∀ S', S3.set n (.dK (dPutK kvs q d)) = S' → PS .nx L S') : wps (sPutD a b c L S) PS :=
  q_putD (h.mono fun d S1 k => k.mono fun o S2 k => k.mono fun y S3 ⟨n, q, kvs, e, e1, e2, e3, k⟩ => ⟨n, q, kvs, e, e1, e2, e3, k _ rfl⟩)
theorem r_setKC (h : wp (a L S) fun o S1 => (∃ r, dLook S1 o (.int 0) = some r) ∧ wp (b L S1) fun y S2 => wp (c L S2) fun z S3 => ∃ n q kvs, o = .obj n ∧ kKey y = some q ∧ S3[n]? = some (.dK kvs) ∧ kvs.length < sizeLine ∧
    (∀ d, dGetK kvs q = some d → P d S3) ∧ (dGetK kvs q = none → ∀ S', S3.set n (.dK (dPutK kvs q z)) = S' → P z S')) : wp (eSetK a b c L S) P :=
  r_setK (h.mono fun o S1 ⟨e, k⟩ => ⟨e, k.mono fun y S2 k => k.mono fun z S3 ⟨n, q, kvs, e1, e2, e3, e4, k1, k2⟩ => ⟨n, q, kvs, e1, e2, e3, e4, k1, fun g => k2 g _ rfl⟩⟩)
theorem r_setNC (h : wp (a L S) fun o S1 => isDN S1 o = true ∧ wp (b L S1) fun y S2 => wp (c L S2) fun z S3 => ∃ n q kvs, o = .obj n ∧ kNk y = some q ∧ S3[n]? = some (.dN kvs) ∧ kvs.length < sizeLine ∧
    (∀ d, nGet kvs q = some d → P d S3) ∧ (nGet kvs q = none → ∀ S', S3.set n (.dN (kvs ++ [(q, z)])) = S' → P z S')) : wp (eSetN a b c L S) P :=
  r_setN (h.mono fun o S1 ⟨e, k⟩ => ⟨e, k.mono fun y S2 k => k.mono fun z S3 ⟨n, q, kvs, e1, e2, e3, e4, k1, k2⟩ => ⟨n, q, kvs, e1, e2, e3, e4, k1, fun g => k2 g _ rfl⟩⟩)
instance : Wp (eNw ma L S) P (wp (ma L S) fun ds S1 => ∀ n, S1.length = n → ∀ S', S1 ++ [.lst ds] = S' → P (.obj n) S') := ⟨r_eNwC⟩
instance : Wp (eNwK L S) P (∀ n, S.length = n → ∀ S', S ++ [.dK []] = S' → P (.obj n) S') := ⟨r_nwKC⟩
instance : Wp (eNwN L S) P (∀ n, S.length = n → ∀ S', S ++ [.dN []] = S' → P (.obj n) S') := ⟨r_nwNC⟩
instance : Ws (sAppO a b L S) PS (wp (a L S) fun o S1 => ∃ n ds0, o = .obj n ∧ S1[n]? = some (.lst ds0) ∧ wp (b L S1) fun d S2 => ∃ ds, S2[n]? = some (.lst ds) ∧ ds.length < sizeLine ∧ ∀ S', S2.set n (.lst (ds ++ [d])) = S' → PS .nx L S') := ⟨q_appOC⟩
instance : Ws (sPutO a b c L S) PS (wp (c L S) fun d S1 => wp (a L S1) fun o S2 => ∃ n, o = .obj n ∧ wp (b L S2) fun j S3 => ∃ k ds jj, j = .int k ∧ S3[n]? = some (.lst ds) ∧ ixN ds.length k = some jj ∧ ∀ S', S3.set n (.lst (ds.set jj d)) = S' → PS .nx L S') := ⟨q_putOC⟩
instance : Ws (sPutD a b c L S) PS (wp (c L S) fun d S1 => wp (a L S1) fun o S2 => wp (b L S2) fun y S3 => ∃ n q kvs, o = .obj n ∧ kKey y = some q ∧ S3[n]? = some (.dK kvs) ∧ kvs.length < sizeLine ∧ ∀ S', S3.set n (.dK (dPutK kvs q d)) = S' → PS .nx L S') := ⟨q_putDC⟩
instance : Wp (eSetK a b c L S) P (wp (a L S) fun o S1 => (∃ r, dLook S1 o (.int 0) = some r) ∧ wp (b L S1) fun y S2 => wp (c L S2) fun z S3 => ∃ n q kvs, o = .obj n ∧ kKey y = some q ∧ S3[n]? = some (.dK kvs) ∧ kvs.length < sizeLine ∧
    (∀ d, dGetK kvs q = some d → P d S3) ∧ (dGetK kvs q = none → ∀ S', S3.set n (.dK (dPutK kvs q z)) = S' → P z S')) := ⟨r_setKC⟩
instance : Wp (eSetN a b c L S) P (wp (a L S) fun o S1 => isDN S1 o = true ∧ wp (b L S1) fun y S2 => wp (c L S2) fun z S3 => ∃ n q kvs, o = .obj n ∧ kNk y = some q ∧ S3[n]? = some (.dN kvs) ∧ kvs.length < sizeLine ∧
    (∀ d, nGet kvs q = some d → P d S3) ∧ (nGet kvs q = none → ∀ S', S3.set n (.dN (kvs ++ [(q, z)])) = S' → P z S')) := ⟨r_setNC⟩
theorem q_ownC (h : wp (ma L S) fun ds S1 => ∀ L', L.set i (.o (.lst ds)) = L' → PS .nx L' S1) : wps (sOwn i ma L S) PS := q_own (h.mono fun ds S1 k => k _ rfl)
theorem v_appC {m : EM} (h : ∃ ds, L[i]? = some (.o (.lst ds)) ∧ wp (m L S) fun d S1 => ds.length < sizeLine ∧ ∀ L', L.set i (.o (.lst (ds ++ [d]))) = L' → PS .nx L' S1) : wps (sApp i m L S) PS := by
  obtain ⟨ds, e, h⟩ := h
  exact v_app ⟨ds, e, h.mono fun d S1 ⟨h1, k⟩ => ⟨h1, k _ rfl⟩⟩
theorem v_augC {m : EM} {o : D → D → Option D} (h : ∃ d, L[i]? = some (.v d) ∧ wp (m L S) fun y S1 => ∃ z, o (deref S1 d) (deref S1 y) = some z ∧ ∀ L', L.set i (.v z) = L' → PS .nx L' S1) : wps (sAug i o m L S) PS := by
  obtain ⟨d, e, h⟩ := h
  exact v_aug ⟨d, e, h.mono fun y S1 ⟨z, e, k⟩ => ⟨z, e, k _ rfl⟩⟩
theorem v_frzC (h : ∃ v, L[i]? = some v ∧ match v with
    | .v _ => wps (sb L S) PS
    | .o (.lst ds) => ∀ L', L.set i (.v (.lst ds)) = L' → wps (sb L' S) PS
    | _ => False) : wps (sFrz i sb L S) PS := by
  obtain ⟨v, e, h⟩ := h
  refine v_frz ⟨v, e, ?_⟩
  cases v with
  | v d => exact h
  | o u => cases u with
    | lst ds => exact h _ rfl
    | _ => exact h.elim
  | un => exact h.elim
  | exc x => exact h.elim
instance : Ws (sOwn i ma L S) PS (wp (ma L S) fun ds S1 => ∀ L', L.set i (.o (.lst ds)) = L' → PS .nx L' S1) := ⟨q_ownC⟩
instance {m : EM} : Ws (sApp i m L S) PS (∃ ds, L[i]? = some (.o (.lst ds)) ∧ wp (m L S) fun d S1 => ds.length < sizeLine ∧ ∀ L', L.set i (.o (.lst (ds ++ [d]))) = L' → PS .nx L' S1) := ⟨v_appC⟩
instance {m : EM} {o : D → D → Option D} : Ws (sAug i o m L S) PS (∃ d, L[i]? = some (.v d) ∧ wp (m L S) fun y S1 => ∃ z, o (deref S1 d) (deref S1 y) = some z ∧ ∀ L', L.set i (.v z) = L' → PS .nx L' S1) := ⟨v_augC⟩
instance : Ws (sFrz i sb L S) PS (∃ v, L[i]? = some v ∧ match v with
    | .v _ => wps (sb L S) PS
    | .o (.lst ds) => ∀ L', L.set i (.v (.lst ds)) = L' → wps (sb L' S) PS
    | _ => False) := ⟨v_frzC⟩
theorem g_drL {o : D → D → Option D} {n : Nat} {ds : List D} {y : D} {Q : D → Prop} (h : S[n]? = some (.lst ds)) (k : ∃ z, o (.lst ds) y = some z ∧ Q z) : ∃ z, o (deref S (.obj n)) y = some z ∧ Q z := by
  have e : deref S (.obj n) = .lst ds := by show (match S[n]? with | some (.lst ds) => D.lst ds | _ => D.obj n) = _; rw [h]
  rw [e]; exact k
theorem g_dr1 {oL : List D → Option D} {n : Nat} {ds : List D} {Q : D → Prop} (h : S[n]? = some (.lst ds)) (k : ∃ z, oL [.lst ds] = some z ∧ Q z) : ∃ z, oL ([D.obj n].map (deref S)) = some z ∧ Q z := by
  have e : deref S (.obj n) = .lst ds := by show (match S[n]? with | some (.lst ds) => D.lst ds | _ => D.obj n) = _; rw [h]
  rw [List.map_cons, List.map_nil, e]; exact k
theorem repG {ds : List D} {Q : D → Prop} (h : ∃ z, bRepr ds = some z ∧ Q z) : ∃ z, bRepr ds = some z ∧ Q z := h
end
theorem g_as {e : Option D} {z : D} {Q : D → Prop} (h : e = some z) (k : Q z) : ∃ z, e = some z ∧ Q z := ⟨z, h, k⟩
end Rf
set_option Elab.async false
set_option linter.all false
set_option maxRecDepth 100000
set_option maxHeartbeats 0
namespace Rf
open PySem PySem.Spec PyProof.Rows L2 TL Rf
open Lw
def opV : Option Int → D
  | none => .non
  | some i => .int i
inductive Ru where
  | never | always | kinds (ks : List (List Nat)) | between (a b : Int) | sizes (m : Int) | same | written
def Ru.cls : Ru → Str
  | .never => "Rule"
  | .always => "Always"
  | .kinds _ => "Kinds"
  | .between _ _ => "Between"
  | .sizes _ => "Sizes"
  | .same => "SamePlace"
  | .written => "Written"
def Ru.ns : Ru → List Str
  | .kinds _ => ["kinds"]
  | .between _ _ => ["low", "high"]
  | .sizes _ => ["most"]
  | _ => []
def Ru.ds : Ru → List D
  | .kinds ks => [.tup (ks.map .str)]
  | .between a b => [.int a, .int b]
  | .sizes m => [.int m]
  | _ => []
def Ru.obj (r : Ru) : O := .ins r.cls r.ns r.ds
def Ru.told : Ru → D
  | .never => .tup [.str [110, 101, 118, 101, 114], .non, .non]
  | .always => .tup [.str [97, 108, 119, 97, 121, 115], .non, .non]
  | .kinds ks => .tup [.str [107, 105, 110, 100, 115], .lst (ks.map .str), .non]
  | .between a b => .tup [.str [98, 101, 116, 119, 101, 101, 110], .int a, .int b]
  | .sizes m => .tup [.str [115, 105, 122, 101, 115], .int m, .non]
  | .same => .tup [.str [115, 97, 109, 101], .non, .non]
  | .written => .tup [.str [119, 114, 105, 116, 116, 101, 110], .non, .non]
def Ru.gd : Ru → Prop
  | .kinds ks => ks.length ≤ 3
  | _ => True
/-- the marks of a making and of a twin -/
structure Mk4 where
  k : List Nat
  a : Option Int
  b : Option Int
  z : Int
  n : Option Int
def Mk4.m (x : Mk4) : D := .tup [.str x.k, opV x.a, .int x.z, opV x.n]
def Mk4.t (x : Mk4) : D := .tup [.str x.k, opV x.b, .int x.z, opV x.n]
/-- what the walker leaves alone -/
structure Iw (p : Prop) : Prop where
  out : p
section
variable {n : Nat} {y0 y1 : O} {T : Sto} {P : D → Sto → Prop}
def isOpD : D → Bool
  | .non => true
  | .int _ => true
  | _ => false
def isStrD : D → Bool
  | .str _ => true
  | _ => false
def isIntD : D → Bool
  | .int _ => true
  | _ => false
theorem w_oneI4 {ls : List D} {S : Sto} (h : DkE (n + 1) y0 y1) (hl : ls.all isIntD = true) (h0 : ls ≠ []) (hz : ls.length < 2 ^ 40) (k : ∀ (i : Int) (x0 x1 : O), DkE n x0 x1 → P (.int i) (x0 :: x1 :: S)) : wp (c__law_one [.obj 1, .lst ls] (y0 :: y1 :: S)) P :=
  w_one3 h h0 hz fun x x0 x1 hx hd => by
    have := List.all_eq_true.mp hl x hx
    cases x with
    | int i => exact k i x0 x1 hd
    | _ => cases this
theorem w_oneS4 {ls : List D} {S : Sto} (h : DkE (n + 1) y0 y1) (hl : ls.all isStrD = true) (h0 : ls ≠ []) (hz : ls.length < 2 ^ 40) (k : ∀ (i : List Nat) (x0 x1 : O), DkE n x0 x1 → P (.str i) (x0 :: x1 :: S)) : wp (c__law_one [.obj 1, .lst ls] (y0 :: y1 :: S)) P :=
  w_one3 h h0 hz fun x x0 x1 hx hd => by
    have := List.all_eq_true.mp hl x hx
    cases x with
    | str i => exact k i x0 x1 hd
    | _ => cases this
theorem w_oneO4 {ls : List D} {S : Sto} (h : DkE (n + 1) y0 y1) (hl : ls.all isOpD = true) (h0 : ls ≠ []) (hz : ls.length < 2 ^ 40) (k : ∀ (a : Option Int) (x0 x1 : O), DkE n x0 x1 → P (opV a) (x0 :: x1 :: S)) : wp (c__law_one [.obj 1, .lst ls] (y0 :: y1 :: S)) P :=
  w_one3 h h0 hz fun x x0 x1 hx hd => by
    have := List.all_eq_true.mp hl x hx
    cases x with
    | int i => exact k (some i) x0 x1 hd
    | non => exact k none x0 x1 hd
    | _ => cases this
theorem q_flL {cs : List Str} {f c : Str} {b : EM} {L : Ls} {S : Sto} {ns : List Str} {ds : List D} {xp : ExP} {PS : Fl → Ls → Sto → Prop} (hL : L[0]? = some (.v (.obj S.length))) (hc : c ∈ cs) (hn : ns.length < 900)
    (hb : wp (b L (S ++ [.ins c ns ds])) fun d S1 => S1 = S ++ [.ins c ns ds] ∧ PS .nx L (S ++ [.ins c (fPut f d ns ds).1 (fPut f d ns ds).2])) : wps (sFl cs f (eVar 0) b L (S ++ [.ins c ns ds])) PS := by
  refine q_fl (hb.mono fun d S1 ⟨e, k⟩ => ?_)
  subst e
  refine v_eVar ⟨_, hL, S.length, c, ns, ds, rfl, by simp, hc, hn, ?_⟩
  have e : (S ++ [O.ins c ns ds]).set S.length (.ins c (fPut f d ns ds).1 (fPut f d ns ds).2) = S ++ [.ins c (fPut f d ns ds).1 (fPut f d ns ds).2] := by simp
  rw [e]
  exact k
section
section
local macro_rules | `(tactic| walk_at "rf") => `(tactic| first | ((with_reducible refine anG ?_); ((with_reducible refine And.intro ?_ ?_); exact rfl)) | fail)
local macro_rules | `(tactic| walk_at "rf") => `(tactic| first | ((with_reducible refine wsG ?_); (with_reducible refine Ws.imp ?_)) | ((with_reducible refine exG ?_); ((with_reducible apply Exists.intro); (fail_if_success (with_reducible refine g_og ?_ ?_)); (fail_if_success (with_reducible refine repG ?_)); (repeat (with_reducible apply Exists.intro)); refine And.intro rfl ?_)) | fail)
local macro_rules | `(tactic| walk_at "rf") => `(tactic| first | ((with_reducible apply q_flL); (· exact rfl); (· decide); (· exact Nat.le_of_ble_eq_true rfl)) | ((with_reducible refine wpG ?_); (with_reducible refine Wp.imp ?_)) | fail)
theorem iB (a b : D) (S : Sto) : c_Between___init__ [.obj S.length, a, b] (S ++ [.ins "Between" [] []]) = .ok .non (S ++ [.ins "Between" ["low", "high"] [a, b]]) := ok_of (by
  apply u_Between___init__
  repeat' walk_at "rf"
  all_goals first | exact rfl | (refine ⟨rfl, ?_⟩; exact rfl))
theorem iS (a : D) (S : Sto) : c_Sizes___init__ [.obj S.length, a] (S ++ [.ins "Sizes" [] []]) = .ok .non (S ++ [.ins "Sizes" ["most"] [a]]) := ok_of (by
  apply u_Sizes___init__
  repeat' walk_at "rf"
  all_goals first | exact rfl | (refine ⟨rfl, ?_⟩; exact rfl))
theorem iK (a : D) (S : Sto) : c_Kinds___init__ [.obj S.length, a] (S ++ [.ins "Kinds" [] []]) = .ok .non (S ++ [.ins "Kinds" ["kinds"] [a]]) := ok_of (by
  apply u_Kinds___init__
  repeat' walk_at "rf"
  all_goals first | exact rfl | (refine ⟨rfl, ?_⟩; exact rfl))
end
end
section
local macro_rules | `(tactic| walk_at "rf") => `(tactic| first | ((with_reducible refine anG ?_); ((with_reducible refine And.intro ?_ ?_); (· ((with_reducible refine ltG ?_); (simp only [List.length_map, List.length_append, List.length_replicate, List.length_cons, List.length_nil]; omega))))) | fail)
local macro_rules | `(tactic| walk_at "rf") => `(tactic| first | ((with_reducible refine anG ?_); ((with_reducible refine And.intro ?_ ?_); exact rfl)) | ((with_reducible refine anG ?_); ((with_reducible refine And.intro ?_ ?_); exact Nat.le_of_ble_eq_true rfl)) | fail)
local macro_rules | `(tactic| walk_at "rf") => `(tactic| first | ((with_reducible refine anG ?_); ((with_reducible apply r_isF); (· first | with_reducible assumption | exact rfl))) | ((with_reducible refine anG ?_); ((with_reducible refine r_dec (fun ht => ?_) (fun ht => ?_)) <;> first | (exfalso; omega) | skip)) | fail)
local macro_rules | `(tactic| walk_at "rf") => `(tactic| first | ((with_reducible refine exG ?_); ((with_reducible apply Exists.intro); (fail_if_success (with_reducible refine g_og ?_ ?_)); (fail_if_success (with_reducible refine repG ?_)); (repeat (with_reducible apply Exists.intro)); refine And.intro rfl ?_)) | ((with_reducible refine anG ?_); ((with_reducible apply r_isT); (· first | with_reducible assumption | exact rfl))) | fail)
local macro_rules | `(tactic| walk_at "rf") => `(tactic| first | ((with_reducible refine exG ?_); (with_reducible refine g_op ?_)) | ((with_reducible refine exG ?_); ((with_reducible refine g_og ?_ ?_); (· first | assumption | decide | omega | exact Nat.le_of_ble_eq_true rfl | (simp only [List.length_append, List.length_map, List.length_replicate, List.length_cons, List.length_nil]; omega)))) | fail)
local macro_rules | `(tactic| walk_at "rf") => `(tactic| first | ((with_reducible refine ntG ?_); (intro n hn; (try simp only [List.length_cons, List.length_nil, Nat.zero_add, Nat.reduceAdd] at hn); subst hn)) | ((with_reducible refine exG ?_); ((with_reducible apply g_rng1); (· exact rfl); (· constructor <;> omega))) | fail)
local macro_rules | `(tactic| walk_at "rf") => `(tactic| first | ((with_reducible refine wsG ?_); (with_reducible refine Ws.imp ?_)) | ((with_reducible refine stG ?_); (intro S' hS'; (try simp only [List.cons_append, List.nil_append, List.set_cons_zero, List.set_cons_succ] at hS'); subst hS')) | fail)
local macro_rules | `(tactic| walk_at "rf") => `(tactic| first | ((with_reducible refine wpG ?_); (with_reducible refine Wp.imp ?_)) | ((with_reducible refine wpG ?_); ((with_reducible apply w_draw3); (· assumption); (· first | decide | omega); (· first | decide | assumption | exact Nat.lt_of_lt_of_le (lgi (k := 64) (by omega) (by decide)) (by decide)); intro r x0 x1 h0 h1 hd)) | fail)
local macro_rules | `(tactic| walk_at "rf") => `(tactic| first | ((with_reducible apply wp.eq); (· first | with_reducible exact iB _ _ _ | with_reducible exact iS _ _ | with_reducible exact iK _ _)) | ((with_reducible refine lsG ?_); (intro L' hL'; (try simp only [List.set_cons_zero, List.set_cons_succ] at hL'); subst hL')) | fail)
local macro_rules | `(tactic| walk_at "rf") => `(tactic| first | ((with_reducible apply w_oneO4); (· assumption); (· exact rfl); (· (intro h; cases h)); (· exact Nat.le_of_ble_eq_true rfl); intro a x0 x1 hd) | ((with_reducible apply wp.eq); (· with_reducible assumption)) | fail)
local macro_rules | `(tactic| walk_at "rf") => `(tactic| first | ((with_reducible apply w_oneI4); (· assumption); (· exact rfl); (· (intro h; cases h)); (· exact Nat.le_of_ble_eq_true rfl); intro i x0 x1 hd) | ((with_reducible apply w_oneS4); (· assumption); (· exact rfl); (· (intro h; cases h)); (· exact Nat.le_of_ble_eq_true rfl); intro i x0 x1 hd) | fail)
theorem kinds_ok {ps : List (List Nat)} (h : ps.length ≤ 3) (S : Sto) : c__law_kinds [.lst (ps.map .str)] S = .ok (.obj S.length) (S ++ [(Ru.kinds ps).obj]) := ok_of (by
  have hz : 1000 < sizeLine := by decide
  apply u__law_kinds
  match ps, h with
  | [], _ =>
    repeat' walk_at "rf"
    all_goals exact rfl
  | [a], _ =>
    repeat' walk_at "rf"
    all_goals exact rfl
  | [a, b], _ =>
    repeat' walk_at "rf"
    all_goals exact rfl
  | [a, b, c], _ =>
    repeat' walk_at "rf"
    all_goals exact rfl)
theorem basic_ok (h : DkE (n + 10) y0 y1) (hT : T.length < 1000) : @wp noXP _ (c__law_basic [.obj 1] (y0 :: y1 :: T)) fun d S => Iw (∃ (r : Ru) (z0 z1 : O), d = .tup [.obj (T.length + 2), r.told] ∧ S = z0 :: z1 :: (T ++ [r.obj]) ∧ DkE n z0 z1 ∧ r.gd) := by
  have hz : 1000 < sizeLine := by decide
  apply u__law_basic
  have fin : ∀ (r : Ru) (d : D) (S : Sto) (z0 z1 : O), d = .tup [.obj (T.length + 2), r.told] → S = z0 :: z1 :: (T ++ [r.obj]) → DkE n z0 z1 → r.gd → Iw (∃ (r : Ru) (z0 z1 : O), d = .tup [.obj (T.length + 2), r.told] ∧ S = z0 :: z1 :: (T ++ [r.obj]) ∧ DkE n z0 z1 ∧ r.gd) := fun r d S z0 z1 e1 e2 e3 e4 => ⟨r, z0, z1, e1, e2, e3, e4⟩
  repeat' walk_at "rf"
  all_goals first
    | (show Iw _; exact fin .never _ _ _ _ rfl rfl (DkE.le (by with_reducible assumption) (by omega)) trivial)
    | (show Iw _; exact fin .always _ _ _ _ rfl rfl (DkE.le (by with_reducible assumption) (by omega)) trivial)
    | (show Iw _; exact fin .same _ _ _ _ rfl rfl (DkE.le (by with_reducible assumption) (by omega)) trivial)
    | (show Iw _; exact fin .written _ _ _ _ rfl rfl (DkE.le (by with_reducible assumption) (by omega)) trivial)
    | (show Iw _; exact fin (.between _ _) _ _ _ _ rfl rfl (DkE.le (by with_reducible assumption) (by omega)) trivial)
    | (show Iw _; exact fin (.sizes _) _ _ _ _ rfl rfl (DkE.le (by with_reducible assumption) (by omega)) trivial)
    | skip
  rename_i r u0 u1 hr0 hr1 hdl
  refine lc_rng (fun j m acc S => Iw (∃ (ps : List (List Nat)) (y0 y1 : O), S = y0 :: y1 :: T ∧ acc = ps.map .str ∧ ps.length + m = r.toNat ∧ DkE (n + 1 + m) y0 y1)) ?_ ?_ 0 _ _ [] ⟨[], _, _, rfl, rfl, by simp, hdl.le (by omega)⟩
  · rintro j m acc S ⟨ps, y0, y1, rfl, rfl, hpl, hd⟩
    have hd0 : DkE ((n + 1 + m) + 1) y0 y1 := hd.le (by omega)
    refine ⟨_, rfl, r_tYs ?_⟩
    rw [if_pos rfl]
    repeat' walk_at "rf"
    rename_i y z0 z1 hd'
    exact ⟨ps ++ [y], z0, z1, rfl, by rw [List.map_append]; rfl, by rw [List.length_append, List.length_singleton]; omega, hd'⟩
  rintro j S acc ⟨ps, i0, i1, rfl, rfl, hpl, hd4⟩
  have hk := kinds_ok (ps := ps) (by omega) (i0 :: i1 :: T)
  repeat' walk_at "rf"
  show Iw _
  exact fin (.kinds ps) _ _ _ _ rfl rfl (hd4.le (by omega)) (show ps.length ≤ 3 by omega)
theorem marks_ok (h : DkE (n + 10) y0 y1) : @wp noXP _ (c__law_marks [.obj 1] (y0 :: y1 :: T)) fun d S => Iw (∃ (x : Mk4) (z0 z1 : O), d = .tup [x.m, x.t] ∧ S = z0 :: z1 :: T ∧ DkE n z0 z1) := by
  have hz : 1000 < sizeLine := by decide
  apply u__law_marks
  repeat' walk_at "rf"
  all_goals first
    | (show Iw _; exact ⟨⟨_, _, _, _, none⟩, _, _, rfl, rfl, DkE.le (by with_reducible assumption) (by omega)⟩)
    | (show Iw _; exact ⟨⟨_, _, _, _, some _⟩, _, _, rfl, rfl, DkE.le (by with_reducible assumption) (by omega)⟩)
    | (show Iw _; exact ⟨⟨_, some _, some _, _, none⟩, _, _, rfl, rfl, DkE.le (by with_reducible assumption) (by omega)⟩)
    | (show Iw _; exact ⟨⟨_, some _, some _, _, some _⟩, _, _, rfl, rfl, DkE.le (by with_reducible assumption) (by omega)⟩)
end
end
end Rf
set_option Elab.async false
set_option linter.all false
set_option maxRecDepth 100000
set_option maxHeartbeats 0
namespace Rf
open PySem PySem.Spec PyProof.Rows L2 TL Rf
open Lw
def Ru.lets : Ru → Mk4 → Bool
  | .never, _ => false
  | .always, _ => true
  | .kinds ks, x => decide (x.k ∈ ks)
  | .between a b, x => match x.n with
    | none => false
    | some i => decide (a ≤ i) && decide (i ≤ b)
  | .sizes m, x => decide (x.z ≤ m)
  | .same, x => match x.a, x.b with
    | some i, some j => decide (i = j)
    | _, _ => false
  | .written, x => match x.a, x.b with
    | some _, some _ => true
    | _, _ => false
noncomputable def Ru.F : Ru → Fn
  | .never => c_Rule_allows
  | .always => c_Always_allows
  | .kinds _ => c_Kinds_allows
  | .between _ _ => c_Between_allows
  | .sizes _ => c_Sizes_allows
  | .same => c_SamePlace_allows
  | .written => c_Written_allows
theorem allows_no (r : Ru) : fGet "allows" r.ns r.ds = none := by cases r <;> rfl
theorem any_str4 (y : List Nat) : ∀ ys : List (List Nat), ((ys.map D.str).any fun z => eqv z (.str y)) = decide (y ∈ ys)
  | [] => rfl
  | z :: zs => by
    rw [List.map_cons, List.any_cons, any_str4 y zs]
    show ((z == y) || decide (y ∈ zs)) = _
    rw [Bool.eq_iff_iff, Bool.or_eq_true, beq_iff_eq, decide_eq_true_iff, decide_eq_true_iff, List.mem_cons]
    constructor
    · rintro (e | e)
      · exact .inl e.symm
      · exact .inr e
    · rintro (e | e)
      · exact .inl e.symm
      · exact .inr e
theorem flat_str4 (ys : List (List Nat)) : (ys.map D.str).all flatD = true := by
  rw [List.all_eq_true]
  intro z hz
  obtain ⟨w, _, rfl⟩ := List.mem_map.mp hz
  rfl
theorem cIn_SL (y : List Nat) (ys : List (List Nat)) : cIn (.str y) (.lst (ys.map .str)) = some (.bl (decide (y ∈ ys))) := by
  show (if flatD (.str y) && (ys.map D.str).all flatD then some ((ys.map D.str).any fun z => eqv z (.str y)) else none).map D.bl = _
  rw [flat_str4, any_str4]
  rfl
theorem cIn_ST (y : List Nat) (ys : List (List Nat)) : cIn (.str y) (.tup (ys.map .str)) = some (.bl (decide (y ∈ ys))) := by
  show (if flatD (.str y) && (ys.map D.str).all flatD then some ((ys.map D.str).any fun z => eqv z (.str y)) else none).map D.bl = _
  rw [flat_str4, any_str4]
  rfl
section
variable {S : Sto} {n : Nat}
theorem ins_at {r : Ru} (h : S[n]? = some r.obj) : insOf S (.obj n) = some (r.cls, r.ns, r.ds) := by
  unfold insOf
  simp only [h, Ru.obj]
theorem g_ins {d : D} {c : Str} {ns : List Str} {ds : List D} {Q : Str → List Str → List D → Prop} (h : insOf S d = some (c, ns, ds)) (k : Q c ns ds) : ∃ c ns ds, insOf S d = some (c, ns, ds) ∧ Q c ns ds := ⟨_, _, _, h, k⟩
section
local macro_rules | `(tactic| walk_at "rf") => `(tactic| first | (with_reducible exact rfl) | fail)
local macro_rules | `(tactic| walk_at "rf") => `(tactic| first | ((with_reducible refine anG ?_); ((with_reducible refine r_dec (fun ht => ?_) (fun ht => ?_)) <;> first | (exfalso; omega) | skip)) | ((with_reducible refine anG ?_); ((with_reducible refine And.intro ?_ ?_); exact rfl)) | fail)
local macro_rules | `(tactic| walk_at "rf") => `(tactic| first | ((with_reducible refine anG ?_); ((with_reducible apply r_isT); (· first | with_reducible assumption | exact rfl))) | ((with_reducible refine anG ?_); ((with_reducible apply r_isF); (· first | with_reducible assumption | exact rfl))) | fail)
local macro_rules | `(tactic| walk_at "rf") => `(tactic| first | ((with_reducible refine exG ?_); (with_reducible refine g_op ?_)) | ((with_reducible refine exG ?_); ((with_reducible apply Exists.intro); (fail_if_success (with_reducible refine g_og ?_ ?_)); (fail_if_success (with_reducible refine repG ?_)); (repeat (with_reducible apply Exists.intro)); refine And.intro rfl ?_)) | fail)
local macro_rules | `(tactic| walk_at "rf") => `(tactic| first | ((with_reducible refine wpG ?_); (with_reducible refine Wp.imp ?_)) | ((with_reducible refine wsG ?_); (with_reducible refine Ws.imp ?_)) | fail)
local macro_rules | `(tactic| walk_at "rf") => `(tactic| first | ((with_reducible refine And.intro ?_ ?_); (· decide)) | ((with_reducible refine lsG ?_); (intro L' hL'; (try simp only [List.set_cons_zero, List.set_cons_succ] at hL'); subst hL')) | fail)
local macro_rules | `(tactic| walk_at "rf") => `(tactic| first | ((with_reducible apply g_as); (· with_reducible assumption)) | ((with_reducible apply g_ins); (· with_reducible assumption)) | fail)
theorem allow_ok (r : Ru) (x : Mk4) (hS : S[n]? = some r.obj) : r.F [.obj n, x.m, x.t] S = .ok (.bl (r.lets x)) S := by
  have hI := ins_at hS
  obtain ⟨k, a, b, z, m⟩ := x
  cases r with
  | never =>
    refine ok_of ?_
    apply u_Rule_allows
    repeat' walk_at "rf"
    all_goals exact ⟨rfl, rfl⟩
  | always =>
    refine ok_of ?_
    apply u_Always_allows
    repeat' walk_at "rf"
    all_goals exact ⟨rfl, rfl⟩
  | kinds ks =>
    have hk := cIn_ST k ks
    have hI : insOf S (.obj n) = some (Str.ofString "Kinds", [Str.ofString "kinds"], [D.tup (ks.map D.str)]) := hI
    refine ok_of ?_
    apply u_Kinds_allows
    unfold Mk4.m
    repeat' walk_at "rf"
  | between lo hi =>
    have hI : insOf S (.obj n) = some (Str.ofString "Between", [Str.ofString "low", Str.ofString "high"], [D.int lo, D.int hi]) := hI
    refine ok_of ?_
    apply u_Between_allows
    unfold Mk4.m
    cases m with
    | none =>
      unfold opV
      repeat' walk_at "rf"
    | some i =>
      unfold opV
      repeat' walk_at "rf"
      · rename_i ht
        show D.bl _ = D.bl (decide (lo ≤ i) && decide (i ≤ hi)) ∧ _
        rw [decide_eq_true ht]
        exact ⟨rfl, rfl⟩
      · rename_i ht
        show D.bl _ = D.bl (decide (lo ≤ i) && decide (i ≤ hi)) ∧ _
        rw [decide_eq_false ht]
        exact ⟨rfl, rfl⟩
  | sizes m =>
    have hI : insOf S (.obj n) = some (Str.ofString "Sizes", [Str.ofString "most"], [D.int m]) := hI
    refine ok_of ?_
    apply u_Sizes_allows
    unfold Mk4.m
    repeat' walk_at "rf"
  | same =>
    refine ok_of ?_
    apply u_SamePlace_allows
    unfold Mk4.m Mk4.t
    cases a with
    | none =>
      cases b with
      | none => unfold opV; repeat' walk_at "rf"
      | some j => unfold opV; repeat' walk_at "rf"
    | some i =>
      cases b with
      | none => unfold opV; repeat' walk_at "rf"
      | some j => unfold opV; repeat' walk_at "rf"
  | written =>
    refine ok_of ?_
    apply u_Written_allows
    unfold Mk4.m Mk4.t
    cases a with
    | none =>
      cases b with
      | none => unfold opV; repeat' walk_at "rf"
      | some j => unfold opV; repeat' walk_at "rf"
    | some i =>
      cases b with
      | none => unfold opV; repeat' walk_at "rf"
      | some j => unfold opV; repeat' walk_at "rf"
theorem lets_ok (r : Ru) (x : Mk4) : c__law_lets [r.told, x.m, x.t] S = .ok (.bl (r.lets x)) S := by
  obtain ⟨k, a, b, z, m⟩ := x
  cases r with
  | never =>
    refine ok_of ?_
    apply u__law_lets
    unfold Ru.told
    repeat' walk_at "rf"
  | always =>
    refine ok_of ?_
    apply u__law_lets
    unfold Ru.told
    repeat' walk_at "rf"
  | kinds ks =>
    have hk := cIn_SL k ks
    refine ok_of ?_
    apply u__law_lets
    unfold Ru.told Mk4.m
    repeat' walk_at "rf"
  | between lo hi =>
    refine ok_of ?_
    apply u__law_lets
    unfold Ru.told Mk4.m
    cases m with
    | none => unfold opV; repeat' walk_at "rf"
    | some i =>
      unfold opV
      repeat' walk_at "rf"
      · rename_i ht
        show D.bl _ = D.bl (decide (lo ≤ i) && decide (i ≤ hi)) ∧ _
        rw [decide_eq_true ht]
        exact ⟨rfl, rfl⟩
      · rename_i ht
        show D.bl _ = D.bl (decide (lo ≤ i) && decide (i ≤ hi)) ∧ _
        rw [decide_eq_false ht]
        exact ⟨rfl, rfl⟩
  | sizes m =>
    refine ok_of ?_
    apply u__law_lets
    unfold Ru.told Mk4.m
    repeat' walk_at "rf"
  | same =>
    refine ok_of ?_
    apply u__law_lets
    unfold Ru.told Mk4.m Mk4.t
    cases a with
    | none =>
      cases b with
      | none => unfold opV; repeat' walk_at "rf"
      | some j => unfold opV; repeat' walk_at "rf"
    | some i =>
      cases b with
      | none => unfold opV; repeat' walk_at "rf"
      | some j => unfold opV; repeat' walk_at "rf"
  | written =>
    refine ok_of ?_
    apply u__law_lets
    unfold Ru.told Mk4.m Mk4.t
    cases a with
    | none =>
      cases b with
      | none => unfold opV; repeat' walk_at "rf"
      | some j => unfold opV; repeat' walk_at "rf"
    | some i =>
      cases b with
      | none => unfold opV; repeat' walk_at "rf"
      | some j => unfold opV; repeat' walk_at "rf"
end
end
end Rf
set_option Elab.async false
set_option linter.all false
set_option maxRecDepth 100000
set_option maxHeartbeats 0
namespace Rf
open PySem PySem.Spec PyProof.Rows L2 TL Rf
open Lw
inductive Tm where
  | base (r : Ru) | both (a b : Tm) | either (a b : Tm) | other (a : Tm)
def Tm.ev : Tm → Mk4 → Bool
  | .base r, x => r.lets x
  | .both a b, x => a.ev x && b.ev x
  | .either a b, x => a.ev x || b.ev x
  | .other a, x => !a.ev x
def Tm.dp : Tm → Nat
  | .base _ => 0
  | .both a b => max a.dp b.dp + 1
  | .either a b => max a.dp b.dp + 1
  | .other a => a.dp + 1
def Tm.cls : Tm → Str
  | .base r => r.cls
  | .both _ _ => "Both"
  | .either _ _ => "Either"
  | .other _ => "Other"
def oBoth (i j : D) : O := .ins "Both" ["first_rule", "second_rule"] [i, j]
def oEither (i j : D) : O := .ins "Either" ["first_rule", "second_rule"] [i, j]
def oOther (i : D) : O := .ins "Other" ["turned_rule"] [i]
/-- the object n of y0 :: y1 :: T is the term t -/
def Rt (T : Sto) : Nat → Tm → Prop
  | n, .base r => ∃ k, n = k + 2 ∧ T[k]? = some r.obj
  | n, .both a b => ∃ k i j, n = k + 2 ∧ T[k]? = some (oBoth (.obj i) (.obj j)) ∧ Rt T i a ∧ Rt T j b
  | n, .either a b => ∃ k i j, n = k + 2 ∧ T[k]? = some (oEither (.obj i) (.obj j)) ∧ Rt T i a ∧ Rt T j b
  | n, .other a => ∃ k i, n = k + 2 ∧ T[k]? = some (oOther (.obj i)) ∧ Rt T i a
def KpT (T T2 : Sto) : Prop := ∀ (k : Nat) (c : Str) (ns : List Str) (ds : List D), T[k]? = some (O.ins c ns ds) → T2[k]? = some (O.ins c ns ds)
theorem Rt.kp {T T' : Sto} (h : KpT T T') : ∀ {t : Tm} {n : Nat}, Rt T n t → Rt T' n t
  | .base r, n, ⟨k, e, q⟩ => ⟨k, e, h _ _ _ _ q⟩
  | .both a b, n, ⟨k, i, j, e, q, ra, rb⟩ => ⟨k, i, j, e, h _ _ _ _ q, ra.kp h, rb.kp h⟩
  | .either a b, n, ⟨k, i, j, e, q, ra, rb⟩ => ⟨k, i, j, e, h _ _ _ _ q, ra.kp h, rb.kp h⟩
  | .other a, n, ⟨k, i, e, q, ra⟩ => ⟨k, i, e, h _ _ _ _ q, ra.kp h⟩
theorem KpT.app (T V : Sto) : KpT T (T ++ V) := fun k c ns ds q => by
  rw [List.getElem?_append_left]
  · exact q
  · exact (List.getElem?_eq_some_iff.mp q).1
theorem insOf_at {y0 y1 : O} {T : Sto} {k : Nat} {c : Str} {ns : List Str} {ds : List D} (q : T[k]? = some (O.ins c ns ds)) : insOf (y0 :: y1 :: T) (.obj (k + 2)) = some (c, ns, ds) := by
  have h : (y0 :: y1 :: T)[k + 2]? = some (.ins c ns ds) := q
  unfold insOf
  simp only [h]
theorem Rt.ins {y0 y1 : O} {T : Sto} : ∀ {t : Tm} {n : Nat}, Rt T n t → ∃ ns ds, insOf (y0 :: y1 :: T) (.obj n) = some (t.cls, ns, ds) ∧ fGet "allows" ns ds = none
  | .base r, n, ⟨k, e, q⟩ => ⟨r.ns, r.ds, e ▸ insOf_at q, allows_no r⟩
  | .both a b, n, ⟨k, i, j, e, q, ra, rb⟩ => ⟨_, _, e ▸ insOf_at q, rfl⟩
  | .either a b, n, ⟨k, i, j, e, q, ra, rb⟩ => ⟨_, _, e ▸ insOf_at q, rfl⟩
  | .other a, n, ⟨k, i, e, q, ra⟩ => ⟨_, _, e ▸ insOf_at q, rfl⟩
noncomputable abbrev tblN (k : Nat) : List (Str × Fn) := [("Rule", c_Rule_allows), ("Both", g_Both_allows k 0), ("Either", g_Both_allows k 1), ("Other", g_Both_allows k 2), ("Always", c_Always_allows), ("Kinds", c_Kinds_allows), ("Between", c_Between_allows), ("Sizes", c_Sizes_allows), ("SamePlace", c_SamePlace_allows), ("Written", c_Written_allows)]
noncomputable abbrev tblC : List (Str × Fn) := [("Rule", c_Rule___call__), ("Both", c_Rule___call__), ("Either", c_Rule___call__), ("Other", c_Rule___call__), ("Always", c_Rule___call__), ("Kinds", c_Rule___call__), ("Between", c_Rule___call__), ("Sizes", c_Rule___call__), ("SamePlace", c_Rule___call__), ("Written", c_Rule___call__)]
noncomputable def Tm.F (k : Nat) : Tm → Fn
  | .base r => r.F
  | .both _ _ => g_Both_allows k 0
  | .either _ _ => g_Both_allows k 1
  | .other _ => g_Both_allows k 2
theorem tblN_at (k : Nat) (t : Tm) : (tblN k).lookup t.cls = some (t.F k) := by
  cases t with
  | base r => cases r <;> rfl
  | _ => rfl
theorem tblC_at (t : Tm) : tblC.lookup t.cls = some c_Rule___call__ := by
  cases t with
  | base r => cases r <;> rfl
  | _ => rfl
section
variable {y0 y1 : O} {T : Sto} {n : Nat}
theorem g_mtT {t : Tm} {k : Nat} {Q : Fn → Prop} (hR : Rt T n t) (h : Q (t.F k)) : ∃ c ns ds, insOf (y0 :: y1 :: T) (.obj n) = some (c, ns, ds) ∧ ∃ F, (tblN k).lookup c = some F ∧ fGet "allows" ns ds = none ∧ Q F := by
  obtain ⟨ns, ds, e1, e2⟩ := hR.ins (y0 := y0) (y1 := y1)
  exact ⟨_, ns, ds, e1, _, tblN_at k t, e2, h⟩
section
local macro_rules | `(tactic| walk_at "rf") => `(tactic| first | (with_reducible exact rfl) | fail)
local macro_rules | `(tactic| walk_at "rf") => `(tactic| first | ((with_reducible refine anG ?_); ((with_reducible apply r_isF); (· first | with_reducible assumption | exact rfl))) | ((with_reducible refine anG ?_); ((with_reducible refine And.intro ?_ ?_); exact rfl)) | fail)
local macro_rules | `(tactic| walk_at "rf") => `(tactic| first | ((with_reducible refine exG ?_); ((with_reducible apply Exists.intro); (fail_if_success (with_reducible refine g_og ?_ ?_)); (fail_if_success (with_reducible refine repG ?_)); (repeat (with_reducible apply Exists.intro)); refine And.intro rfl ?_)) | ((with_reducible refine anG ?_); ((with_reducible apply r_isT); (· first | with_reducible assumption | exact rfl))) | fail)
local macro_rules | `(tactic| walk_at "rf") => `(tactic| first | ((with_reducible refine wpG ?_); (with_reducible refine Wp.imp ?_)) | ((with_reducible refine wsG ?_); (with_reducible refine Ws.imp ?_)) | fail)
local macro_rules | `(tactic| walk_at "rf") => `(tactic| first | ((with_reducible apply wp.eq); (· with_reducible assumption)) | ((with_reducible refine And.intro ?_ ?_); (· decide)) | fail)
local macro_rules | `(tactic| walk_at "rf") => `(tactic| first | ((with_reducible apply g_mtT); (· with_reducible assumption)) | ((with_reducible apply g_ins); (· with_reducible assumption)) | fail)
theorem allowT : ∀ (t : Tm) (k n : Nat), t.dp ≤ k → Rt T n t → ∀ x : Mk4, t.F k [.obj n, x.m, x.t] (y0 :: y1 :: T) = .ok (.bl (t.ev x)) (y0 :: y1 :: T)
  | .base r, k, n, _, ⟨i, e, q⟩, x => by
    subst e
    exact allow_ok r x q
  | .both a b, 0, n, h, _, x => absurd h (by unfold Tm.dp; omega)
  | .either a b, 0, n, h, _, x => absurd h (by unfold Tm.dp; omega)
  | .other a, 0, n, h, _, x => absurd h (by unfold Tm.dp; omega)
  | .both a b, k + 1, n, h, ⟨m, i, j, e, q, ra, rb⟩, x => by
    subst e
    unfold Tm.dp at h
    have ha := allowT a k i (by omega) ra x
    have hb := allowT b k j (by omega) rb x
    have hI : insOf (y0 :: y1 :: T) (.obj (m + 2)) = some (Str.ofString "Both", [Str.ofString "first_rule", Str.ofString "second_rule"], [.obj i, .obj j]) := insOf_at q
    show g_Both_allows (k + 1) 0 _ _ = .ok (.bl (a.ev x && b.ev x)) _
    refine ok_of ?_
    apply u_Both_allows
    generalize a.ev x = p at *
    generalize b.ev x = r at *
    cases p <;> cases r <;> repeat' walk_at "rf"
  | .either a b, k + 1, n, h, ⟨m, i, j, e, q, ra, rb⟩, x => by
    subst e
    unfold Tm.dp at h
    have ha := allowT a k i (by omega) ra x
    have hb := allowT b k j (by omega) rb x
    have hI : insOf (y0 :: y1 :: T) (.obj (m + 2)) = some (Str.ofString "Either", [Str.ofString "first_rule", Str.ofString "second_rule"], [.obj i, .obj j]) := insOf_at q
    show g_Both_allows (k + 1) 1 _ _ = .ok (.bl (a.ev x || b.ev x)) _
    refine ok_of ?_
    apply u_Either_allows
    generalize a.ev x = p at *
    generalize b.ev x = r at *
    cases p <;> cases r <;> repeat' walk_at "rf"
  | .other a, k + 1, n, h, ⟨m, i, e, q, ra⟩, x => by
    subst e
    unfold Tm.dp at h
    have ha := allowT a k i (by omega) ra x
    have hI : insOf (y0 :: y1 :: T) (.obj (m + 2)) = some (Str.ofString "Other", [Str.ofString "turned_rule"], [.obj i]) := insOf_at q
    show g_Both_allows (k + 1) 2 _ _ = .ok (.bl (!a.ev x)) _
    refine ok_of ?_
    apply u_Other_allows
    generalize a.ev x = p at *
    cases p <;> repeat' walk_at "rf"
theorem callT {t : Tm} (hd : t.dp ≤ 40) (hR : Rt T n t) (x : Mk4) : c_Rule___call__ [.obj n, x.m, x.t] (y0 :: y1 :: T) = .ok (.bl (t.ev x)) (y0 :: y1 :: T) := ok_of (by
  have ha := allowT (y0 := y0) (y1 := y1) t 40 n hd hR x
  apply u_Rule___call__
  repeat' walk_at "rf")
end
end
section
variable {y0 y1 : O} {T : Sto} {n : Nat} {P : D → Sto → Prop} {mo : EM} {ma : Ls → Sto → R (List D)} {L : Ls}
theorem w_coT {t : Tm} {x : Mk4} (hm : mo L (y0 :: y1 :: T) = .ok (.obj n) (y0 :: y1 :: T)) (hR : Rt T n t) (hd : t.dp ≤ 40) (ha : ma L (y0 :: y1 :: T) = .ok [x.m, x.t] (y0 :: y1 :: T)) (k : P (.bl (t.ev x)) (y0 :: y1 :: T)) : wp (eCo tblC mo ma L (y0 :: y1 :: T)) P := by
  obtain ⟨ns, ds, e1, e2⟩ := hR.ins (y0 := y0) (y1 := y1)
  refine r_co (wp.eq hm ⟨_, _, _, e1, _, tblC_at t, wp.eq ha ⟨_, _, e1, ?_⟩⟩)
  exact wp.eq (callT hd hR x) k
theorem w_mtT {t : Tm} {x : Mk4} (hm : mo L (y0 :: y1 :: T) = .ok (.obj n) (y0 :: y1 :: T)) (hR : Rt T n t) (hd : t.dp ≤ 40) (ha : ma L (y0 :: y1 :: T) = .ok [x.m, x.t] (y0 :: y1 :: T)) (k : P (.bl (t.ev x)) (y0 :: y1 :: T)) : wp (eMt "allows" (tblN 40) mo ma L (y0 :: y1 :: T)) P := by
  obtain ⟨ns, ds, e1, e2⟩ := hR.ins (y0 := y0) (y1 := y1)
  refine r_mt (wp.eq hm ⟨_, _, _, e1, _, tblN_at 40 t, e2, wp.eq ha ?_⟩)
  exact wp.eq (allowT t 40 n hd hR x) k
end
end Rf
set_option Elab.async false
set_option linter.all false
set_option maxRecDepth 100000
set_option maxHeartbeats 0
namespace Rf
open PySem PySem.Spec PyProof.Rows L2 TL Rf
open Lw
section
section
local macro_rules | `(tactic| walk_at "rf") => `(tactic| first | ((with_reducible refine anG ?_); ((with_reducible refine And.intro ?_ ?_); exact rfl)) | fail)
local macro_rules | `(tactic| walk_at "rf") => `(tactic| first | ((with_reducible refine wsG ?_); (with_reducible refine Ws.imp ?_)) | ((with_reducible refine exG ?_); ((with_reducible apply Exists.intro); (fail_if_success (with_reducible refine g_og ?_ ?_)); (fail_if_success (with_reducible refine repG ?_)); (repeat (with_reducible apply Exists.intro)); refine And.intro rfl ?_)) | fail)
local macro_rules | `(tactic| walk_at "rf") => `(tactic| first | ((with_reducible apply q_flL); (· exact rfl); (· decide); (· exact Nat.le_of_ble_eq_true rfl)) | ((with_reducible refine wpG ?_); (with_reducible refine Wp.imp ?_)) | fail)
theorem iBo (a b : D) (S : Sto) : c_Both___init__ [.obj S.length, a, b] (S ++ [.ins "Both" [] []]) = .ok .non (S ++ [oBoth a b]) := ok_of (by
  apply u_Both___init__
  repeat' walk_at "rf"
  all_goals first | exact rfl | (refine ⟨rfl, ?_⟩; exact rfl))
theorem iEi (a b : D) (S : Sto) : c_Either___init__ [.obj S.length, a, b] (S ++ [.ins "Either" [] []]) = .ok .non (S ++ [oEither a b]) := ok_of (by
  apply u_Either___init__
  repeat' walk_at "rf"
  all_goals first | exact rfl | (refine ⟨rfl, ?_⟩; exact rfl))
theorem iOt (a : D) (S : Sto) : c_Other___init__ [.obj S.length, a] (S ++ [.ins "Other" [] []]) = .ok .non (S ++ [oOther a]) := ok_of (by
  apply u_Other___init__
  repeat' walk_at "rf"
  all_goals first | exact rfl | (refine ⟨rfl, ?_⟩; exact rfl))
end
end
section
section
local macro_rules | `(tactic| walk_at "rf") => `(tactic| first | ((with_reducible refine anG ?_); ((with_reducible refine And.intro ?_ ?_); exact rfl)) | (with_reducible exact rfl) | fail)
local macro_rules | `(tactic| walk_at "rf") => `(tactic| first | ((with_reducible refine wsG ?_); (with_reducible refine Ws.imp ?_)) | ((with_reducible refine exG ?_); ((with_reducible apply Exists.intro); (fail_if_success (with_reducible refine g_og ?_ ?_)); (fail_if_success (with_reducible refine repG ?_)); (repeat (with_reducible apply Exists.intro)); refine And.intro rfl ?_)) | fail)
local macro_rules | `(tactic| walk_at "rf") => `(tactic| first | ((with_reducible apply wp.eq); (· first | with_reducible exact iBo _ _ _ | with_reducible exact iEi _ _ _ | with_reducible exact iOt _ _)) | ((with_reducible refine wpG ?_); (with_reducible refine Wp.imp ?_)) | fail)
theorem o_and (p q : D) (S : Sto) : c_Rule___and__ [p, q] S = .ok (.obj S.length) (S ++ [oBoth p q]) := ok_of (by
  apply u_Rule___and__
  repeat' walk_at "rf"
  all_goals exact rfl)
theorem o_or (p q : D) (S : Sto) : c_Rule___or__ [p, q] S = .ok (.obj S.length) (S ++ [oEither p q]) := ok_of (by
  apply u_Rule___or__
  repeat' walk_at "rf"
  all_goals exact rfl)
theorem o_inv (p : D) (S : Sto) : c_Rule___invert__ [p] S = .ok (.obj S.length) (S ++ [oOther p]) := ok_of (by
  apply u_Rule___invert__
  repeat' walk_at "rf"
  all_goals exact rfl)
theorem o_sub (p q : D) (S : Sto) : c_Rule___sub__ [p, q] S = .ok (.obj (S ++ [oOther q]).length) (S ++ [oOther q] ++ [oBoth p (.obj S.length)]) := ok_of (by
  apply u_Rule___sub__
  repeat' walk_at "rf"
  all_goals exact rfl)
end
end
def Gt (T : Sto) (l : List (Nat × Tm)) : Prop := ∀ p ∈ l, Rt T p.1 p.2
theorem Gt.kp {T T2 : Sto} {l : List (Nat × Tm)} (h : Gt T l) (k : KpT T T2) : Gt T2 l := fun p hp => (h p hp).kp k
theorem Gt.cons {T : Sto} {l : List (Nat × Tm)} {n : Nat} {t : Tm} (h : Gt T l) (k : Rt T n t) : Gt T ((n, t) :: l) := fun p hp => by
  rcases List.mem_cons.mp hp with rfl | hp
  · exact k
  · exact h p hp
section
variable {T : Sto} {l : List (Nat × Tm)} {i j : Nat} {t u : Tm}
theorem last_at (o : O) : (T ++ [o])[T.length]? = some o := by simp
theorem Gt.both (hG : Gt T l) (hp : (i, t) ∈ l) (hq : (j, u) ∈ l) : Gt (T ++ [oBoth (.obj i) (.obj j)]) ((T.length + 2, .both t u) :: l) :=
  (hG.kp (KpT.app _ _)).cons ⟨T.length, i, j, rfl, last_at _, (hG _ hp).kp (KpT.app _ _), (hG _ hq).kp (KpT.app _ _)⟩
theorem Gt.either (hG : Gt T l) (hp : (i, t) ∈ l) (hq : (j, u) ∈ l) : Gt (T ++ [oEither (.obj i) (.obj j)]) ((T.length + 2, .either t u) :: l) :=
  (hG.kp (KpT.app _ _)).cons ⟨T.length, i, j, rfl, last_at _, (hG _ hp).kp (KpT.app _ _), (hG _ hq).kp (KpT.app _ _)⟩
theorem Gt.other (hG : Gt T l) (hp : (i, t) ∈ l) : Gt (T ++ [oOther (.obj i)]) ((T.length + 2, .other t) :: l) :=
  (hG.kp (KpT.app _ _)).cons ⟨T.length, i, rfl, last_at _, (hG _ hp).kp (KpT.app _ _)⟩
end
abbrev csR : List Str := ["Rule", "Both", "Either", "Other", "Always", "Kinds", "Between", "Sizes", "SamePlace", "Written"]
theorem cls_in (t : Tm) : t.cls ∈ csR := by
  cases t with
  | base r => cases r with
    | never => exact (by decide : ("Rule" : Str) ∈ csR)
    | always => exact (by decide : ("Always" : Str) ∈ csR)
    | kinds _ => exact (by decide : ("Kinds" : Str) ∈ csR)
    | between _ _ => exact (by decide : ("Between" : Str) ∈ csR)
    | sizes _ => exact (by decide : ("Sizes" : Str) ∈ csR)
    | same => exact (by decide : ("SamePlace" : Str) ∈ csR)
    | written => exact (by decide : ("Written" : Str) ∈ csR)
  | both _ _ => exact (by decide : ("Both" : Str) ∈ csR)
  | either _ _ => exact (by decide : ("Either" : Str) ∈ csR)
  | other _ => exact (by decide : ("Other" : Str) ∈ csR)
section
variable {y0 y1 a b c e : O} {V : Sto} {l : List (Nat × Tm)} {i j : Nat} {t u : Tm} {P : D → Sto → Prop} {Q : Nat → Sto → Prop}
theorem g_and (hG : Gt (a :: b :: c :: e :: V) l) (hp : (i, t) ∈ l) (hq : (j, u) ∈ l) (k : ∀ n V', Gt (a :: b :: c :: e :: V') ((n, .both t u) :: l) → Q n (y0 :: y1 :: a :: b :: c :: e :: V')) :
    ∃ c1 cn cd c2 dn dd, insOf (y0 :: y1 :: a :: b :: c :: e :: V) (.obj i) = some (c1, cn, cd) ∧ insOf (y0 :: y1 :: a :: b :: c :: e :: V) (.obj j) = some (c2, dn, dd) ∧ (c1 ∈ csR ∧ c2 ∈ csR) ∧
      @wp noXP _ (c_Rule___and__ [.obj i, .obj j] (y0 :: y1 :: a :: b :: c :: e :: V)) fun r S3 => ∃ n, r = .obj n ∧ Q n S3 := by
  obtain ⟨n1, d1, e1, _⟩ := (hG _ hp).ins (y0 := y0) (y1 := y1)
  obtain ⟨n2, d2, e2, _⟩ := (hG _ hq).ins (y0 := y0) (y1 := y1)
  refine ⟨_, _, _, _, _, _, e1, e2, ⟨cls_in _, cls_in _⟩, wp.eq (o_and _ _ _) ⟨_, rfl, ?_⟩⟩
  exact k _ _ (hG.both hp hq)
theorem g_or (hG : Gt (a :: b :: c :: e :: V) l) (hp : (i, t) ∈ l) (hq : (j, u) ∈ l) (k : ∀ n V', Gt (a :: b :: c :: e :: V') ((n, .either t u) :: l) → Q n (y0 :: y1 :: a :: b :: c :: e :: V')) :
    ∃ c1 cn cd c2 dn dd, insOf (y0 :: y1 :: a :: b :: c :: e :: V) (.obj i) = some (c1, cn, cd) ∧ insOf (y0 :: y1 :: a :: b :: c :: e :: V) (.obj j) = some (c2, dn, dd) ∧ (c1 ∈ csR ∧ c2 ∈ csR) ∧
      @wp noXP _ (c_Rule___or__ [.obj i, .obj j] (y0 :: y1 :: a :: b :: c :: e :: V)) fun r S3 => ∃ n, r = .obj n ∧ Q n S3 := by
  obtain ⟨n1, d1, e1, _⟩ := (hG _ hp).ins (y0 := y0) (y1 := y1)
  obtain ⟨n2, d2, e2, _⟩ := (hG _ hq).ins (y0 := y0) (y1 := y1)
  refine ⟨_, _, _, _, _, _, e1, e2, ⟨cls_in _, cls_in _⟩, wp.eq (o_or _ _ _) ⟨_, rfl, ?_⟩⟩
  exact k _ _ (hG.either hp hq)
theorem g_sub (hG : Gt (a :: b :: c :: e :: V) l) (hp : (i, t) ∈ l) (hq : (j, u) ∈ l) (k : ∀ n V', Gt (a :: b :: c :: e :: V') ((n, .both t (.other u)) :: l) → Q n (y0 :: y1 :: a :: b :: c :: e :: V')) :
    ∃ c1 cn cd c2 dn dd, insOf (y0 :: y1 :: a :: b :: c :: e :: V) (.obj i) = some (c1, cn, cd) ∧ insOf (y0 :: y1 :: a :: b :: c :: e :: V) (.obj j) = some (c2, dn, dd) ∧ (c1 ∈ csR ∧ c2 ∈ csR) ∧
      @wp noXP _ (c_Rule___sub__ [.obj i, .obj j] (y0 :: y1 :: a :: b :: c :: e :: V)) fun r S3 => ∃ n, r = .obj n ∧ Q n S3 := by
  obtain ⟨n1, d1, e1, _⟩ := (hG _ hp).ins (y0 := y0) (y1 := y1)
  obtain ⟨n2, d2, e2, _⟩ := (hG _ hq).ins (y0 := y0) (y1 := y1)
  refine ⟨_, _, _, _, _, _, e1, e2, ⟨cls_in _, cls_in _⟩, wp.eq (o_sub _ _ _) ⟨_, rfl, ?_⟩⟩
  have h1 := hG.other hq
  have h2 := h1.both (.tail _ hp) (.head _)
  exact k _ _ fun p hp => h2 p (by
    rcases List.mem_cons.mp hp with rfl | hp
    · exact .head _
    · exact .tail _ (.tail _ hp))
theorem g_inv (hG : Gt (a :: b :: c :: e :: V) l) (hp : (i, t) ∈ l) (k : ∀ n V', Gt (a :: b :: c :: e :: V') ((n, .other t) :: l) → P (.obj n) (y0 :: y1 :: a :: b :: c :: e :: V')) :
    ∃ c1 cn cd, insOf (y0 :: y1 :: a :: b :: c :: e :: V) (.obj i) = some (c1, cn, cd) ∧ c1 ∈ csR ∧ @wp noXP _ (c_Rule___invert__ [.obj i] (y0 :: y1 :: a :: b :: c :: e :: V)) P := by
  obtain ⟨n1, d1, e1, _⟩ := (hG _ hp).ins (y0 := y0) (y1 := y1)
  refine ⟨_, _, _, e1, cls_in _, wp.eq (o_inv _ _) ?_⟩
  exact k _ _ (hG.other hp)
end
abbrev Row := Nat × D × Tm
abbrev rd (p : Row) : D := .tup [.obj p.1, p.2.1]
inductive Told (rs : List Row) : D → Tm → Prop
  | base (r : Ru) : Told rs r.told (.base r)
  | and {i j : Int} {p q : Row} : 0 ≤ i → rs[i.toNat]? = some p → 0 ≤ j → rs[j.toNat]? = some q → Told rs (.tup [.str [97, 110, 100], .int i, .int j]) (.both p.2.2 q.2.2)
  | or {i j : Int} {p q : Row} : 0 ≤ i → rs[i.toNat]? = some p → 0 ≤ j → rs[j.toNat]? = some q → Told rs (.tup [.str [111, 114], .int i, .int j]) (.either p.2.2 q.2.2)
  | less {i j : Int} {p q : Row} : 0 ≤ i → rs[i.toNat]? = some p → 0 ≤ j → rs[j.toNat]? = some q → Told rs (.tup [.str [108, 101, 115, 115], .int i, .int j]) (.both p.2.2 (.other q.2.2))
  | no {i : Int} {p : Row} : 0 ≤ i → rs[i.toNat]? = some p → Told rs (.tup [.str [110, 111, 116], .int i, .non]) (.other p.2.2)
abbrev rl (rs : List Row) : List (Nat × Tm) := rs.map fun p => (p.1, p.2.2)
def TolR (rs : List Row) : Prop := ∀ dn p rest, rs = dn ++ p :: rest → Told dn p.2.1 p.2.2
theorem TolR.snoc {rs : List Row} {p : Row} (h : TolR rs) (k : Told rs p.2.1 p.2.2) : TolR (rs ++ [p]) := fun dn q rest e => by
  rcases List.eq_nil_or_concat rest with rfl | ⟨r', z, rfl⟩
  · obtain ⟨e1, e2⟩ := List.append_inj' e rfl
    cases e2
    exact e1 ▸ k
  · have e' : rs ++ [p] = (dn ++ q :: r') ++ [z] := by rw [e]; simp
    obtain ⟨e1, e2⟩ := List.append_inj' e' rfl
    exact h dn q r' e1
theorem row_mem {rs : List Row} {i : Nat} {p : Row} (h : rs[i]? = some p) : (p.1, p.2.2) ∈ rl rs := List.mem_map.mpr ⟨p, List.mem_of_getElem? h, rfl⟩
section
variable {rs : List Row} {i j : Nat} {p q : Row} (hd : ∀ p ∈ rs, p.2.2.dp ≤ 2 * rs.length)
include hd
theorem dp2 (h : rs[i]? = some p) (k : rs[j]? = some q) : (Tm.both p.2.2 q.2.2).dp ≤ 2 * rs.length + 2 := by
  have h1 := hd p (List.mem_of_getElem? h)
  have h2 := hd q (List.mem_of_getElem? k)
  show max _ _ + 1 ≤ _
  omega
theorem dp3 (h : rs[i]? = some p) (k : rs[j]? = some q) : (Tm.both p.2.2 (.other q.2.2)).dp ≤ 2 * rs.length + 2 := by
  have h1 := hd p (List.mem_of_getElem? h)
  have h2 := hd q (List.mem_of_getElem? k)
  show max _ (_ + 1) + 1 ≤ _
  omega
theorem dp1 (h : rs[i]? = some p) : (Tm.other p.2.2).dp ≤ 2 * rs.length + 2 := by
  have h1 := hd p (List.mem_of_getElem? h)
  show _ + 1 ≤ _
  omega
end
theorem g_row {rs : List Row} {S : Sto} {r : Int} {Q : D → Prop} (h0 : 0 ≤ r) (h1 : r < ((rs.map rd).length : Int)) (k : ∀ p : Row, rs[r.toNat]? = some p → Q (rd p)) : ∃ z, oIx (.lst (rs.map rd)) (deref S (.int r)) = some z ∧ Q z := by
  rw [List.length_map] at h1
  have hl : r.toNat < rs.length := by omega
  refine ⟨_, ?_, k rs[r.toNat] (List.getElem?_eq_getElem hl)⟩
  show L2.atI (rs.map rd) r = _
  exact atI_get h0 (by rw [List.getElem?_map, List.getElem?_eq_getElem hl]; rfl)
section
variable {n : Nat} {y0 y1 a b c : O} {V : Sto} {rs : List Row}
section
local macro_rules | `(tactic| walk_at "rf") => `(tactic| first | ((with_reducible refine anG ?_); ((with_reducible refine And.intro ?_ ?_); exact Nat.le_of_ble_eq_true rfl)) | fail)
local macro_rules | `(tactic| walk_at "rf") => `(tactic| first | ((with_reducible refine exG ?_); ((with_reducible apply Exists.intro); (fail_if_success (with_reducible refine g_og ?_ ?_)); (fail_if_success (with_reducible refine repG ?_)); (repeat (with_reducible apply Exists.intro)); refine And.intro rfl ?_)) | ((with_reducible refine anG ?_); ((with_reducible refine r_dec (fun ht => ?_) (fun ht => ?_)) <;> first | (exfalso; omega) | skip)) | fail)
local macro_rules | `(tactic| walk_at "rf") => `(tactic| first | ((with_reducible refine exG ?_); ((with_reducible apply g_dr1); (· exact rfl))) | ((with_reducible refine exG ?_); (with_reducible refine g_op ?_)) | fail)
local macro_rules | `(tactic| walk_at "rf") => `(tactic| first | ((with_reducible refine wsG ?_); (with_reducible refine Ws.imp ?_)) | ((with_reducible refine exG ?_); ((with_reducible apply g_drL); (· exact rfl))) | fail)
local macro_rules | `(tactic| walk_at "rf") => `(tactic| first | ((with_reducible refine wpG ?_); (with_reducible refine Wp.imp ?_)) | ((with_reducible refine wpG ?_); ((with_reducible apply w_draw3); (· assumption); (· first | decide | omega); (· first | decide | assumption | exact Nat.lt_of_lt_of_le (lgi (k := 64) (by omega) (by decide)) (by decide)); intro r x0 x1 h0 h1 hd)) | fail)
local macro_rules | `(tactic| walk_at "rf") => `(tactic| first | ((with_reducible apply g_row); (· with_reducible assumption); (· with_reducible assumption); intro p hp) | ((with_reducible refine lsG ?_); (intro L' hL'; (try simp only [List.set_cons_zero, List.set_cons_succ] at hL'); subst hL')) | fail)
local macro_rules | `(tactic| walk_at "rf") => `(tactic| first | ((with_reducible apply g_sub); (· with_reducible assumption); (· exact row_mem (by with_reducible assumption)); (· exact row_mem (by with_reducible assumption)); intro n' V' hG') | ((with_reducible apply g_inv); (· with_reducible assumption); (· exact row_mem (by with_reducible assumption)); intro n' V' hG') | fail)
local macro_rules | `(tactic| walk_at "rf") => `(tactic| first | ((with_reducible apply g_and); (· with_reducible assumption); (· exact row_mem (by with_reducible assumption)); (· exact row_mem (by with_reducible assumption)); intro n' V' hG') | ((with_reducible apply g_or); (· with_reducible assumption); (· exact row_mem (by with_reducible assumption)); (· exact row_mem (by with_reducible assumption)); intro n' V' hG') | fail)
theorem joined_ok (h : DkE (n + 10) y0 y1) (hG : Gt (a :: b :: c :: .lst (rs.map rd) :: V) (rl rs)) (hd : ∀ p ∈ rs, p.2.2.dp ≤ 2 * rs.length) (hl0 : 0 < (rs.map rd).length) (hl1 : (rs.map rd).length ≤ 11) :
    @wp noXP _ (c__law_joined [.obj 1, .obj 5] (y0 :: y1 :: a :: b :: c :: .lst (rs.map rd) :: V)) fun d S => Iw (∃ (m : Nat) (w : D) (t : Tm) (V' : Sto) (z0 z1 : O), d = .tup [.obj m, w] ∧ S = z0 :: z1 :: a :: b :: c :: .lst (rs.map rd) :: V' ∧ DkE n z0 z1 ∧
      Gt (a :: b :: c :: .lst (rs.map rd) :: V') ((m, t) :: rl rs) ∧ Told rs w t ∧ t.dp ≤ 2 * rs.length + 2) := by
  have hz : 1000 < sizeLine := by decide
  apply u__law_joined
  repeat' walk_at "rf"
  · show Iw _
    exact ⟨_, _, _, _, _, _, rfl, rfl, DkE.le (by with_reducible assumption) (by omega), by with_reducible assumption, .and (by with_reducible assumption) (by with_reducible assumption) (by with_reducible assumption) (by with_reducible assumption), dp2 hd (by with_reducible assumption) (by with_reducible assumption)⟩
  · show Iw _
    exact ⟨_, _, _, _, _, _, rfl, rfl, DkE.le (by with_reducible assumption) (by omega), by with_reducible assumption, .or (by with_reducible assumption) (by with_reducible assumption) (by with_reducible assumption) (by with_reducible assumption), dp2 hd (by with_reducible assumption) (by with_reducible assumption)⟩
  · show Iw _
    exact ⟨_, _, _, _, _, _, rfl, rfl, DkE.le (by with_reducible assumption) (by omega), by with_reducible assumption, .less (by with_reducible assumption) (by with_reducible assumption) (by with_reducible assumption) (by with_reducible assumption), dp3 hd (by with_reducible assumption) (by with_reducible assumption)⟩
  · show Iw _
    exact ⟨_, _, _, _, _, _, rfl, rfl, DkE.le (by with_reducible assumption) (by omega), by with_reducible assumption, .no (by with_reducible assumption) (by with_reducible assumption), dp1 hd (by with_reducible assumption)⟩
end
end
end Rf
set_option Elab.async false
set_option linter.all false
set_option maxRecDepth 100000
set_option maxHeartbeats 0
namespace Rf
open PySem PySem.Spec PyProof.Rows L2 TL Rf
open Lw
abbrev evD (x : Mk4) (p : Row) : D := .bl (p.2.2.ev x)
theorem ix_ev {dn : List Row} {i : Int} {p : Row} (x : Mk4) (h0 : 0 ≤ i) (e : dn[i.toNat]? = some p) : oIx (.lst (dn.map (evD x))) (.int i) = some (.bl (p.2.2.ev x)) := by
  show L2.atI (dn.map (evD x)) i = _
  exact atI_get h0 (by rw [List.getElem?_map, e]; rfl)
section
variable {y0 y1 a b c : O} {V : Sto} {rs : List Row} {x : Mk4}
theorem fin_tr {S : Sto} {dn rest : List Row} {m : Nat} {w : D} {t : Tm} {v : Bool} {z4 z5 z6 z7 z8 : LV} (e : rs = dn ++ (m, w, t) :: rest) (hv : t.ev x = v) :
    Iw (∃ (dn1 : List Row) (u4 u5 u6 u7 u8 : LV), rs = dn1 ++ rest ∧ S = S ∧ ([.v (.obj 5), .v x.m, .v x.t, .o (.lst (dn.map (evD x) ++ [.bl v])), z4, z5, z6, z7, z8] : Ls) = [.v (.obj 5), .v x.m, .v x.t, .o (.lst (dn1.map (evD x))), u4, u5, u6, u7, u8]) :=
  ⟨dn ++ [(m, w, t)], z4, z5, z6, z7, z8, by rw [e, List.append_assoc]; rfl, rfl, by rw [List.map_append, ← hv]; rfl⟩
section
local macro_rules | `(tactic| walk_at "rf") => `(tactic| first | ((with_reducible refine anG ?_); ((with_reducible refine And.intro ?_ ?_); exact Nat.le_of_ble_eq_true rfl)) | (with_reducible exact rfl) | fail)
local macro_rules | `(tactic| walk_at "rf") => `(tactic| first | ((with_reducible refine anG ?_); ((with_reducible refine And.intro ?_ ?_); exact rfl)) | ((with_reducible refine anG ?_); ((with_reducible refine And.intro ?_ ?_); (· with_reducible assumption))) | fail)
local macro_rules | `(tactic| walk_at "rf") => `(tactic| first | ((with_reducible refine anG ?_); ((with_reducible apply r_isF); (· first | with_reducible assumption | exact rfl))) | ((with_reducible refine anG ?_); ((with_reducible refine r_dec (fun ht => ?_) (fun ht => ?_)) <;> first | (exfalso; omega) | skip)) | fail)
local macro_rules | `(tactic| walk_at "rf") => `(tactic| first | ((with_reducible refine exG ?_); ((with_reducible apply Exists.intro); (fail_if_success (with_reducible refine g_og ?_ ?_)); (fail_if_success (with_reducible refine repG ?_)); (repeat (with_reducible apply Exists.intro)); refine And.intro rfl ?_)) | ((with_reducible refine anG ?_); ((with_reducible apply r_isT); (· first | with_reducible assumption | exact rfl))) | fail)
local macro_rules | `(tactic| walk_at "rf") => `(tactic| first | ((with_reducible refine exG ?_); ((with_reducible apply g_as); (· with_reducible assumption))) | ((with_reducible refine exG ?_); (with_reducible refine g_op ?_)) | fail)
local macro_rules | `(tactic| walk_at "rf") => `(tactic| first | ((with_reducible refine wpG ?_); (with_reducible refine Wp.imp ?_)) | ((with_reducible refine wsG ?_); (with_reducible refine Ws.imp ?_)) | fail)
local macro_rules | `(tactic| walk_at "rf") => `(tactic| first | ((with_reducible apply wp.eq); (· with_reducible assumption)) | ((with_reducible refine lsG ?_); (intro L' hL'; (try simp only [List.set_cons_zero, List.set_cons_succ] at hL'); subst hL')) | fail)
theorem truths_ok (hT : TolR rs) (hl1 : rs.length ≤ 11) : c__law_truths [.obj 5, x.m, x.t] (y0 :: y1 :: a :: b :: c :: .lst (rs.map rd) :: V) = .ok (.lst (rs.map (evD x))) (y0 :: y1 :: a :: b :: c :: .lst (rs.map rd) :: V) := ok_of (by
  have hz : 1000 < sizeLine := by decide
  apply u__law_truths
  repeat' walk_at "rf"
  refine wps_eaD (f := rd) (fun as L S => Iw (∃ (dn : List Row) (z4 z5 z6 z7 z8 : LV), rs = dn ++ as ∧ S = y0 :: y1 :: a :: b :: c :: .lst (rs.map rd) :: V ∧ L = [.v (.obj 5), .v x.m, .v x.t, .o (.lst (dn.map (evD x))), z4, z5, z6, z7, z8])) ?_ ?_ ?_ _ _ _ ⟨[], _, _, _, _, _, rfl, rfl, rfl⟩
  · rintro as L S ⟨dn, z4, z5, z6, z7, z8, e, rfl, rfl⟩
    intro p hp
    rcases List.mem_singleton.mp hp with rfl
    rfl
  · rintro p as L S ⟨dn, z4, z5, z6, z7, z8, e, rfl, rfl⟩
    have hl : (dn.map (evD x)).length < sizeLine := by rw [List.length_map]; have := congrArg List.length e; rw [List.length_append] at this; omega
    have ht := hT dn p as e
    obtain ⟨m, w, t⟩ := p
    change Told dn w t at ht
    refine ⟨_, rfl, ?_⟩
    cases ht with
    | base r =>
      have hlt := lets_ok (S := y0 :: y1 :: a :: b :: c :: .lst (rs.map rd) :: V) r x
      obtain ⟨w, hw, k1, k2, k3, k4⟩ : ∃ w : List Nat, (∃ i j, r.told = .tup [.str w, i, j]) ∧ w ≠ [97, 110, 100] ∧ w ≠ [111, 114] ∧ w ≠ [108, 101, 115, 115] ∧ w ≠ [110, 111, 116] := by
        cases r <;> exact ⟨_, ⟨_, _, rfl⟩, by decide, by decide, by decide, by decide⟩
      obtain ⟨i, j, hw⟩ := hw
      rw [hw] at hlt ⊢
      repeat' walk_at "rf"
      all_goals first | exact absurd (by assumption) k1 | exact absurd (by assumption) k2 | exact absurd (by assumption) k3 | exact absurd (by assumption) k4 | skip
      show Iw _
      exact fin_tr e rfl
    | and h0 e0 h1 e1 =>
      have i0 := ix_ev x h0 e0
      have i1 := ix_ev x h1 e1
      rename_i p q
      generalize hv0 : p.2.2.ev x = v0 at i0
      generalize hv1 : q.2.2.ev x = v1 at i1
      cases v0 <;> cases v1 <;> repeat' walk_at "rf"
      all_goals
        show Iw _
        exact fin_tr e (by show (p.2.2.ev x && q.2.2.ev x) = _; rw [hv0, hv1] <;> rfl)
    | or h0 e0 h1 e1 =>
      have i0 := ix_ev x h0 e0
      have i1 := ix_ev x h1 e1
      rename_i p q
      generalize hv0 : p.2.2.ev x = v0 at i0
      generalize hv1 : q.2.2.ev x = v1 at i1
      cases v0 <;> cases v1 <;> repeat' walk_at "rf"
      all_goals
        show Iw _
        exact fin_tr e (by show (p.2.2.ev x || q.2.2.ev x) = _; rw [hv0, hv1] <;> rfl)
    | less h0 e0 h1 e1 =>
      have i0 := ix_ev x h0 e0
      have i1 := ix_ev x h1 e1
      rename_i p q
      generalize hv0 : p.2.2.ev x = v0 at i0
      generalize hv1 : q.2.2.ev x = v1 at i1
      cases v0 <;> cases v1 <;> repeat' walk_at "rf"
      all_goals
        show Iw _
        exact fin_tr e (by show (p.2.2.ev x && !q.2.2.ev x) = _; rw [hv0, hv1] <;> rfl)
    | no h0 e0 =>
      have i0 := ix_ev x h0 e0
      rename_i p
      generalize hv0 : p.2.2.ev x = v0 at i0
      cases v0 <;> repeat' walk_at "rf"
      all_goals
        show Iw _
        exact fin_tr e (by show (!p.2.2.ev x) = _; rw [hv0] <;> rfl)
  · rintro L S ⟨dn, z4, z5, z6, z7, z8, e, rfl, rfl⟩
    rw [List.append_nil] at e
    subst e
    repeat' walk_at "rf")
end
end
end Rf
set_option Elab.async false
set_option linter.all false
set_option maxRecDepth 100000
set_option maxHeartbeats 0
namespace Rf
open PySem PySem.Spec PyProof.Rows L2 TL Rf
open Lw
theorem dDs_bl : ∀ bs : List Bool, ∃ ps, dDs (bs.map .bl) = some ps ∧ PyData.showableAll ps = true ∧ PyData.leavesShortAll 31 ps = true ∧ PyData.bulkAll ps ≤ bs.length ∧ PyData.depthAll ps ≤ 0
  | [] => ⟨[], rfl, rfl, rfl, Nat.le_refl _, Nat.le_refl _⟩
  | b :: bs => by
    obtain ⟨ps, k1, k2, k3, k4, k5⟩ := dDs_bl bs
    refine ⟨.bool b :: ps, by rw [List.map_cons]; simp only [dDs, dD, k1], by simp only [PyData.showableAll, PyData.showable, k2, Bool.and_self], by simp only [PyData.leavesShortAll, PyData.leavesShort, k3, Bool.and_self], ?_, ?_⟩
    · simp only [PyData.bulkAll, PyData.bulk, List.length_cons]; omega
    · simp only [PyData.depthAll, PyData.depth]; omega
structure Rp4 (d : D) (z : List Nat) : Prop where
  out : bRepr [d] = some (.str z)
theorem rp_bls (bs : List Bool) (hl : bs.length ≤ 1000) : ∃ z, Rp4 (.lst (bs.map .bl)) z := by
  obtain ⟨ps, k1, k2, k3, k4, k5⟩ := dDs_bl bs
  have hb : (PyData.list ps).bulk ≤ bs.length := by simpa only [PyData.bulk] using k4
  have hl' := PyData.shown_le_bulk 31 (by decide) (.list ps) (by simpa only [PyData.leavesShort] using k3)
  have hz : (PyData.list ps).shown.length ≤ sizeLine := by
    have : (sizeLine : Nat) = 16777216 := rfl
    omega
  have hd : (PyData.list ps).depth ≤ 50 := by simp only [PyData.depth]; omega
  refine ⟨(PyData.list ps).shown.cps.toList, ⟨?_⟩⟩
  show (dD (.lst (bs.map .bl))).bind _ = _
  have e : dD (.lst (bs.map .bl)) = some (.list ps) := by simp only [dD, k1, Option.map_some]
  rw [e]
  show (reprD (.list ps)).map D.str = _
  unfold reprD
  rw [if_pos ⟨by simpa only [PyData.showable] using k2, hz, hd⟩]
  rfl
theorem g_rp4 {d : D} {z : List Nat} {S : Sto} {Q : D → Prop} (h : Rp4 d z) (hd : deref S d = d) (k : Q (.str z)) : ∃ z, bRepr ([d].map (deref S)) = some z ∧ Q z := by
  rw [List.map_cons, List.map_nil, hd]
  exact ⟨_, h.out, k⟩
theorem ix_last {rs : List Row} {p : Row} (h : rs.getLast? = some p) : oIx (.lst (rs.map rd)) (.int (-1)) = some (rd p) := by
  show L2.atI (rs.map rd) (-1) = _
  have h0 : rs ≠ [] := by rintro rfl; cases h
  have hl : 0 < rs.length := List.length_pos_iff.mpr h0
  have e : L2.ixN (rs.map rd).length (-1) = some (rs.length - 1) := by
    rw [List.length_map]
    unfold L2.ixN
    have := List.length_pos_iff.mpr h0
    rw [if_neg (by decide), if_pos (by omega)]
    congr 1
    omega
  unfold L2.atI
  rw [e]
  show (rs.map rd)[rs.length - 1]? = _
  rw [List.getElem?_map, ← List.getLast?_eq_getElem?, h]
  rfl
section
variable {n : Nat} {y0 y1 a b c : O} {V : Sto} {rs : List Row} {P : D → Sto → Prop}
section
local macro_rules | `(tactic| walk_at "rf") => `(tactic| first | ((with_reducible refine exG ?_); ((with_reducible apply Exists.intro); (fail_if_success (with_reducible refine g_og ?_ ?_)); (fail_if_success (with_reducible refine repG ?_)); (repeat (with_reducible apply Exists.intro)); refine And.intro rfl ?_)) | fail)
local macro_rules | `(tactic| walk_at "rf") => `(tactic| first | ((with_reducible refine exG ?_); ((with_reducible apply g_drL); (· exact rfl))) | ((with_reducible refine exG ?_); ((with_reducible apply g_dr1); (· exact rfl))) | fail)
local macro_rules | `(tactic| walk_at "rf") => `(tactic| first | ((with_reducible refine wpG ?_); ((with_reducible apply w_draw3); (· assumption); (· first | decide | omega); (· first | decide | assumption | exact Nat.lt_of_lt_of_le (lgi (k := 64) (by omega) (by decide)) (by decide)); intro r x0 x1 h0 h1 hd)) | ((with_reducible refine wsG ?_); (with_reducible refine Ws.imp ?_)) | fail)
local macro_rules | `(tactic| walk_at "rf") => `(tactic| first | ((with_reducible apply g_row); (· with_reducible assumption); (· with_reducible assumption); intro p hp) | ((with_reducible refine wpG ?_); (with_reducible refine Wp.imp ?_)) | fail)
theorem w_oneR (h : DkE (n + 1) y0 y1) (hl0 : 0 < (rs.map rd).length) (hl1 : (rs.map rd).length ≤ 11) (k : ∀ (p : Row) (i : Nat) (z0 z1 : O), rs[i]? = some p → DkE n z0 z1 → P (rd p) (z0 :: z1 :: a :: b :: c :: .lst (rs.map rd) :: V)) :
    wp (c__law_one [.obj 1, .obj 5] (y0 :: y1 :: a :: b :: c :: .lst (rs.map rd) :: V)) P := by
  have hz : 1000 < sizeLine := by decide
  show wp (c_one _ _) P
  unfold c_one
  refine q_fn rfl ?_
  unfold m_one
  repeat' walk_at "rf"
  exact k _ _ _ _ (by with_reducible assumption) (by with_reducible assumption)
end
end
section
variable {y0 y1 : O} {T : Sto} {i j : Nat} {t u : Tm} {x : Mk4}
theorem g_rb {b : Bool} {S : Sto} {Q : D → Prop} (k : Q (.str (if b = true then [84, 114, 117, 101] else [70, 97, 108, 115, 101]))) : ∃ z, bReprB ([D.bl b].map (deref S)) = some z ∧ Q z := ⟨_, rfl, k⟩
section
local macro_rules | `(tactic| walk_at "rf") => `(tactic| first | ((with_reducible refine exG ?_); (with_reducible refine g_op ?_)) | fail)
local macro_rules | `(tactic| walk_at "rf") => `(tactic| first | ((with_reducible refine wpG ?_); (with_reducible refine Wp.imp ?_)) | ((with_reducible refine wsG ?_); (with_reducible refine Ws.imp ?_)) | fail)
local macro_rules | `(tactic| walk_at "rf") => `(tactic| first | ((with_reducible apply w_coT); (· exact rfl); (· with_reducible assumption); (· with_reducible assumption); (· exact rfl)) | ((with_reducible apply g_rb)) | fail)
theorem same_ok (hi : Rt T i t) (hj : Rt T j u) (hd : t.dp ≤ 40) (he : u.dp ≤ 40) (hE : t.ev x = u.ev x) : Lw.c__law_same [.obj i, .obj j, x.m, x.t] (y0 :: y1 :: T) = .ok (.bl true) (y0 :: y1 :: T) := ok_of (by
  have hz : 1000 < sizeLine := by decide
  apply Lw.u__law_same
  repeat' walk_at "rf"
  exact ⟨congrArg D.bl (decide_eq_true (by rw [hE])), rfl⟩)
end
end
end Rf
set_option Elab.async false
set_option linter.all false
set_option maxRecDepth 100000
set_option maxHeartbeats 0
namespace Rf
open PySem PySem.Spec PyProof.Rows L2 TL Rf
open Lw
def rowD (n : Nat) (r : Ru) : D := .tup [.obj n, r.told]
structure Ri (T : Sto) (rs : List Row) : Prop where
  g : Gt T (rl rs)
  d : ∀ p ∈ rs, p.2.2.dp ≤ 2 * rs.length
  t : TolR rs
theorem Gt.tl {T : Sto} {p : Nat × Tm} {l : List (Nat × Tm)} (h : Gt T (p :: l)) : Gt T l := fun q hq => h q (.tail _ hq)
theorem absorb (a b : Bool) : (a && (a || b)) = a := by cases a <;> cases b <;> rfl
section
variable {n : Nat} {y0 y1 a b c : O} {T V : Sto} {rs : List Row} {P : D → Sto → Prop}
theorem kp3 {l l' : O} {ds ds' : List D} (e : l = .lst ds) (e' : l' = .lst ds') : KpT (a :: b :: c :: l :: V) (a :: b :: c :: l' :: V) := fun k c' ns dz q => by
  subst e e'
  match k, q with
  | 0, q => exact q
  | 1, q => exact q
  | 2, q => exact q
  | 3, q => cases q
  | k + 4, q => exact q
theorem w_basic (h : DkE (n + 10) y0 y1) (hT : T.length < 1000) (k : ∀ (r : Ru) (z0 z1 : O), DkE n z0 z1 → P (rowD (T.length + 2) r) (z0 :: z1 :: (T ++ [r.obj]))) : wp (c__law_basic [.obj 1] (y0 :: y1 :: T)) P :=
  (basic_ok h hT).up.mono (by
    rintro d S ⟨r, z0, z1, rfl, rfl, h, _⟩
    exact k r z0 z1 h)
theorem w_mrk0 (h : DkE (n + 10) y0 y1) (k : ∀ (x : Mk4) (z0 z1 : O), DkE n z0 z1 → P (.tup [x.m, x.t]) (z0 :: z1 :: T)) : wp (c__law_marks [.obj 1] (y0 :: y1 :: T)) P :=
  (marks_ok h).up.mono (by
    rintro d S ⟨x, z0, z1, rfl, rfl, h⟩
    exact k x z0 z1 h)
theorem w_join (h : DkE (n + 10) y0 y1) (hR : Ri (a :: b :: c :: .lst (rs.map rd) :: V) rs) (hl0 : 0 < (rs.map rd).length) (hl1 : (rs.map rd).length ≤ 11)
    (k : ∀ (p : Row) (V' : Sto) (z0 z1 : O), DkE n z0 z1 → Ri (a :: b :: c :: .lst ((rs ++ [p]).map rd) :: V') (rs ++ [p]) → P (rd p) (z0 :: z1 :: a :: b :: c :: .lst (rs.map rd) :: V')) :
    wp (c__law_joined [.obj 1, .obj 5] (y0 :: y1 :: a :: b :: c :: .lst (rs.map rd) :: V)) P :=
  (joined_ok h hR.g hR.d hl0 hl1).up.mono (by
    rintro d S ⟨m, w, t, V', z0, z1, rfl, rfl, h, hG, hT, hd⟩
    refine k (m, w, t) V' z0 z1 h ⟨?_, ?_, hR.t.snoc hT⟩
    · have h1 := hG.kp (kp3 (l' := .lst ((rs ++ [(m, w, t)]).map rd)) rfl rfl)
      intro p hp
      rw [rl, List.map_append] at hp
      rcases List.mem_append.mp hp with hp | hp
      · exact h1 p (.tail _ hp)
      · rcases List.mem_singleton.mp hp with rfl
        exact h1 _ (.head _)
    · intro p hp
      rw [List.length_append, List.length_singleton]
      rcases List.mem_append.mp hp with hp | hp
      · have := hR.d p hp; omega
      · rcases List.mem_singleton.mp hp with rfl
        show t.dp ≤ _
        omega)
theorem w_oneR2 (h : DkE (n + 1) y0 y1) (hl0 : 0 < (rs.map rd).length) (hl1 : (rs.map rd).length ≤ 11) (hdp : ∀ p ∈ rs, p.2.2.dp ≤ 22) (k : ∀ (p : Row) (z0 z1 : O), (p.1, p.2.2) ∈ rl rs → p.2.2.dp ≤ 22 → DkE n z0 z1 → P (rd p) (z0 :: z1 :: a :: b :: c :: .lst (rs.map rd) :: V)) :
    wp (c__law_one [.obj 1, .obj 5] (y0 :: y1 :: a :: b :: c :: .lst (rs.map rd) :: V)) P :=
  w_oneR h hl0 hl1 fun p _ z0 z1 hp hd => k p z0 z1 (row_mem hp) (hdp p (List.mem_of_getElem? hp)) hd
theorem w_same {l : List (Nat × Tm)} {i j : Nat} {t u : Tm} {x : Mk4} (hG : Gt T l) (hi : (i, t) ∈ l) (hj : (j, u) ∈ l) (hd : t.dp ≤ 40) (he : u.dp ≤ 40) (hE : t.ev x = u.ev x) (k : P (.bl true) (y0 :: y1 :: T)) : wp (Lw.c__law_same [.obj i, .obj j, x.m, x.t] (y0 :: y1 :: T)) P :=
  wp.eq (same_ok (hG _ hi) (hG _ hj) hd he hE) k
theorem w_truth {x : Mk4} (hT : TolR rs) (hl1 : rs.length ≤ 11) (k : P (.lst (rs.map (evD x))) (y0 :: y1 :: a :: b :: c :: .lst (rs.map rd) :: V)) : wp (c__law_truths [.obj 5, x.m, x.t] (y0 :: y1 :: a :: b :: c :: .lst (rs.map rd) :: V)) P := wp.eq (truths_ok hT hl1) k
end
section
section
local macro_rules | `(tactic| walk_at "rf") => `(tactic| first | (with_reducible exact rfl) | fail)
local macro_rules | `(tactic| walk_at "rf") => `(tactic| first | ((with_reducible refine anG ?_); ((with_reducible refine And.intro ?_ ?_); (· with_reducible assumption))) | ((with_reducible refine anG ?_); ((with_reducible refine And.intro ?_ ?_); exact Nat.le_of_ble_eq_true rfl)) | fail)
local macro_rules | `(tactic| walk_at "rf") => `(tactic| first | ((with_reducible refine anG ?_); ((with_reducible refine r_dec (fun ht => ?_) (fun ht => ?_)) <;> first | (exfalso; omega) | skip)) | ((with_reducible refine anG ?_); ((with_reducible refine And.intro ?_ ?_); exact rfl)) | fail)
local macro_rules | `(tactic| walk_at "rf") => `(tactic| first | ((with_reducible refine anG ?_); ((with_reducible apply r_isT); (· first | with_reducible assumption | exact rfl))) | ((with_reducible refine anG ?_); ((with_reducible apply r_isF); (· first | with_reducible assumption | exact rfl))) | fail)
local macro_rules | `(tactic| walk_at "rf") => `(tactic| first | ((with_reducible refine exG ?_); (with_reducible refine g_op ?_)) | ((with_reducible refine exG ?_); ((with_reducible apply Exists.intro); (fail_if_success (with_reducible refine g_og ?_ ?_)); (fail_if_success (with_reducible refine repG ?_)); (repeat (with_reducible apply Exists.intro)); refine And.intro rfl ?_)) | fail)
local macro_rules | `(tactic| walk_at "rf") => `(tactic| first | ((with_reducible refine exG ?_); ((with_reducible apply g_rng1); (· exact rfl); (· constructor <;> omega))) | ((with_reducible refine exG ?_); ((with_reducible apply g_drL); (· exact rfl))) | fail)
local macro_rules | `(tactic| walk_at "rf") => `(tactic| first | ((with_reducible refine stG ?_); (intro S' hS'; (try simp only [List.cons_append, List.nil_append, List.set_cons_zero, List.set_cons_succ] at hS'); subst hS')) | ((with_reducible refine ntG ?_); (intro n hn; (try simp only [List.length_cons, List.length_nil, Nat.zero_add, Nat.reduceAdd] at hn); subst hn)) | fail)
local macro_rules | `(tactic| walk_at "rf") => `(tactic| first | ((with_reducible refine wpG ?_); ((with_reducible apply l_nil); (· exact rfl))) | ((with_reducible refine wsG ?_); (with_reducible refine Ws.imp ?_)) | fail)
local macro_rules | `(tactic| walk_at "rf") => `(tactic| first | ((with_reducible refine wpG ?_); ((with_reducible apply w_draw3); (· assumption); (· first | decide | omega); (· first | decide | assumption | exact Nat.lt_of_lt_of_le (lgi (k := 64) (by omega) (by decide)) (by decide)); intro r x0 x1 h0 h1 hd)) | ((with_reducible refine wpG ?_); ((with_reducible apply l_cons); (· exact rfl))) | fail)
local macro_rules | `(tactic| walk_at "rf") => `(tactic| first | ((with_reducible refine lsG ?_); (intro L' hL'; (try simp only [List.set_cons_zero, List.set_cons_succ] at hL'); subst hL')) | ((with_reducible refine wpG ?_); (with_reducible refine Wp.imp ?_)) | fail)
local macro_rules | `(tactic| walk_at "rf") => `(tactic| first | ((with_reducible apply g_rp4); (· with_reducible assumption); (· exact rfl)) | ((with_reducible apply g_as); (· with_reducible assumption)) | fail)
local macro_rules | `(tactic| walk_at "rf") => `(tactic| first | ((with_reducible apply g_inv); (· with_reducible assumption); (· (repeat first | with_reducible assumption | with_reducible exact List.mem_cons_self | with_reducible apply List.mem_cons_of_mem)); intro n' V' hG') | ((with_reducible apply w_same); (· with_reducible assumption); (· (repeat first | with_reducible assumption | with_reducible exact List.mem_cons_self | with_reducible apply List.mem_cons_of_mem)); (· (repeat first | with_reducible assumption | with_reducible exact List.mem_cons_self | with_reducible apply List.mem_cons_of_mem)); (· first | omega | (simp only [Tm.dp]; omega)); (· first | omega | (simp only [Tm.dp]; omega)); (· first | with_reducible rfl | (simp only [Tm.ev]; first | exact Bool.not_not _ | exact Bool.not_or _ _ | exact Bool.or_comm _ _ | exact absorb _ _))) | fail)
local macro_rules | `(tactic| walk_at "rf") => `(tactic| first | ((with_reducible apply g_or); (· with_reducible assumption); (· (repeat first | with_reducible assumption | with_reducible exact List.mem_cons_self | with_reducible apply List.mem_cons_of_mem)); (· (repeat first | with_reducible assumption | with_reducible exact List.mem_cons_self | with_reducible apply List.mem_cons_of_mem)); intro n' V' hG') | ((with_reducible apply g_sub); (· with_reducible assumption); (· (repeat first | with_reducible assumption | with_reducible exact List.mem_cons_self | with_reducible apply List.mem_cons_of_mem)); (· (repeat first | with_reducible assumption | with_reducible exact List.mem_cons_self | with_reducible apply List.mem_cons_of_mem)); intro n' V' hG') | fail)
local macro_rules | `(tactic| walk_at "rf") => `(tactic| first | ((with_reducible apply w_oneR2); (· with_reducible assumption); (· with_reducible assumption); (· with_reducible assumption); (· with_reducible assumption); intro pb z0 z1 hpb hdb hd) | ((with_reducible apply g_and); (· with_reducible assumption); (· (repeat first | with_reducible assumption | with_reducible exact List.mem_cons_self | with_reducible apply List.mem_cons_of_mem)); (· (repeat first | with_reducible assumption | with_reducible exact List.mem_cons_self | with_reducible apply List.mem_cons_of_mem)); intro n' V' hG') | fail)
local macro_rules | `(tactic| walk_at "rf") => `(tactic| first | ((with_reducible apply wp.eq); (· with_reducible assumption)) | ((with_reducible apply w_truth); (· with_reducible assumption); (· with_reducible assumption)) | fail)
local macro_rules | `(tactic| walk_at "rf") => `(tactic| first | ((with_reducible apply w_mrk0); (· with_reducible assumption); intro x z0 z1 hd) | (with_reducible refine stopL_in ?_) | fail)
theorem law_main (ns : List Int) (h : ns.length ≤ 63) : @wp noXP _ (c_law [.scr ns] []) fun d S => d = .bl true := by
  obtain ⟨S0, hdk, hD⟩ := deck_new h (n := 2 ^ 20) (by decide)
  obtain ⟨a0, a1, rfl, hd0⟩ := hD.cut
  have hz : 1000 < sizeLine := by decide
  apply u_law
  repeat' walk_at "rf"
  refine w_basic (T := []) (n := 2 ^ 20 - 10) hd0 (by decide) fun r0 z0 z1 hda => ?_
  repeat' walk_at "rf"
  refine w_basic (T := [r0.obj]) (n := 2 ^ 20 - 20) hda (Nat.le_of_ble_eq_true rfl) fun r1 z2 z3 hdb => ?_
  repeat' walk_at "rf"
  refine w_basic (T := [r0.obj, r1.obj]) (n := 2 ^ 20 - 30) hdb (Nat.le_of_ble_eq_true rfl) fun r2 z4 z5 hdc => ?_
  repeat' walk_at "rf"
  rename_i rk u0 u1 hk0 hk1 hdk2
  obtain ⟨rs, ers⟩ : ∃ rs : List Row, rs = [(2, r0.told, .base r0), (3, r1.told, .base r1), (4, r2.told, .base r2)] := ⟨_, rfl⟩
  have hl3 : rs.length = 3 := by rw [ers]; rfl
  have hRi : Ri (r0.obj :: r1.obj :: r2.obj :: .lst (rs.map rd) :: []) rs := by
    refine ⟨?_, ?_, ?_⟩
    · rw [ers]
      intro p hp
      rcases List.mem_cons.mp hp with rfl | hp
      · exact ⟨0, rfl, rfl⟩
      rcases List.mem_cons.mp hp with rfl | hp
      · exact ⟨1, rfl, rfl⟩
      rcases List.mem_cons.mp hp with rfl | hp
      · exact ⟨2, rfl, rfl⟩
      cases hp
    · rw [ers]
      intro p hp
      rcases List.mem_cons.mp hp with rfl | hp
      · exact Nat.zero_le _
      rcases List.mem_cons.mp hp with rfl | hp
      · exact Nat.zero_le _
      rcases List.mem_cons.mp hp with rfl | hp
      · exact Nat.zero_le _
      cases hp
    · have t0 : TolR [] := fun dn p rest e => by cases dn <;> cases e
      have t3 := ((t0.snoc (p := (2, r0.told, .base r0)) (.base r0)).snoc (p := (3, r1.told, .base r1)) (.base r1)).snoc (p := (4, r2.told, .base r2)) (.base r2)
      rw [ers]
      exact t3
  refine wps_rng (fun j m L S => Iw (∃ (rs : List Row) (V : Sto) (y0 y1 : O) (z3 : LV), S = y0 :: y1 :: r0.obj :: r1.obj :: r2.obj :: .lst (rs.map rd) :: V ∧ Ri (r0.obj :: r1.obj :: r2.obj :: .lst (rs.map rd) :: V) rs ∧ rs.length + m ≤ 11 ∧ 3 ≤ rs.length ∧ DkE (2 ^ 18 + 10 * m) y0 y1 ∧
      L = [.v (.scr ns), .v (.obj 1), .v (.obj 5), z3, .un, .un, .un, .un, .un, .un, .un, .un, .un, .un, .un])) ?_ ?_ 0 _ _ _ ⟨rs, [], u0, u1, _, by rw [ers]; rfl, hRi, by omega, by omega, hdk2.le (by omega), rfl⟩
  · rintro j m L S ⟨rs, V, y0, y1, z3, rfl, hRi, hl, hl', hd, rfl⟩
    have hd1 : DkE ((2 ^ 18 + 10 * m) + 10) y0 y1 := hd.le (by omega)
    have hl0 : 0 < (rs.map rd).length := by rw [List.length_map]; omega
    have hl1 : (rs.map rd).length ≤ 11 := by rw [List.length_map]; omega
    refine tgX _ rfl ?_
    repeat' walk_at "rf"
    refine w_join hd1 hRi hl0 hl1 fun p V' v0 v1 hd2 hR2 => ?_
    have hzl : (rs.map rd).length < sizeLine := by omega
    repeat' walk_at "rf"
    show Iw _
    exact ⟨rs ++ [p], V', v0, v1, _, by rw [List.map_append]; rfl, hR2, by rw [List.length_append, List.length_singleton]; omega, by rw [List.length_append, List.length_singleton]; omega, hd2, rfl⟩
  · rintro j L S ⟨rs, V, y0, y1, z3, rfl, hRi, hl, hl', hd, rfl⟩
    have hl0 : 0 < (rs.map rd).length := by rw [List.length_map]; omega
    have hl1 : (rs.map rd).length ≤ 11 := by rw [List.length_map]; omega
    have hlr : rs.length ≤ 11 := by omega
    have hT := hRi.t
    have hdp : ∀ p ∈ rs, p.2.2.dp ≤ 22 := fun p hp => by have := hRi.d p hp; omega
    obtain ⟨pa, hla⟩ : ∃ pa, rs.getLast? = some pa := ⟨_, List.getLast?_eq_some_getLast (by intro h; rw [h] at hl'; exact absurd hl' (by decide))⟩
    have hix := ix_last hla
    have hpa : (pa.1, pa.2.2) ∈ rl rs := List.mem_map.mpr ⟨pa, List.mem_of_getLast? hla, rfl⟩
    have hda : pa.2.2.dp ≤ 22 := hdp pa (List.mem_of_getLast? hla)
    repeat' walk_at "rf"
    show wps _ _
    refine wps_rng (fun j m L S => Iw (∃ (V : Sto) (y0 y1 : O) (z3 z4 z5 z6 z7 z8 z9 z10 z11 z12 z13 z14 : LV), S = y0 :: y1 :: r0.obj :: r1.obj :: r2.obj :: .lst (rs.map rd) :: V ∧ Gt (r0.obj :: r1.obj :: r2.obj :: .lst (rs.map rd) :: V) (rl rs) ∧ DkE (2 ^ 17 + 1000 * m) y0 y1 ∧
      L = [.v (.scr ns), .v (.obj 1), .v (.obj 5), z3, z4, z5, z6, z7, z8, z9, z10, z11, z12, z13, z14])) ?_ ?_ 0 _ _ _ ⟨V, y0, y1, _, _, _, _, _, _, _, _, _, _, _, _, rfl, hRi.g, hd.le (by decide), rfl⟩
    · clear hRi hd
      rintro j m L S ⟨V, y0, y1, z3, z4, z5, z6, z7, z8, z9, z10, z11, z12, z13, z14, rfl, hG, hd, rfl⟩
      have hd1 : DkE ((2 ^ 17 + 1000 * m + 900) + 10) y0 y1 := hd.le (by omega)
      refine tgX _ rfl ?_
      repeat' walk_at "rf"
      rename_i x v0 v1 hd2
      have hdl : DepC (v0 :: v1 :: r0.obj :: r1.obj :: r2.obj :: .lst (rs.map rd) :: V) [(5, rs.map rd)] := by
        intro p hp
        rcases List.mem_singleton.mp hp with rfl
        rfl
      have hlz : rs.length ≤ sizeLine := by omega
      obtain ⟨zs, hzs⟩ := rp_bls (rs.map fun p => p.2.2.ev x) (by rw [List.length_map]; omega)
      rw [List.map_map] at hzs
      change Rp4 (.lst (rs.map (evD x))) zs at hzs
      refine wp.eq (lc_eqD (f := rd) (g := evD x) hdl rs (fun p hp => ⟨_, rfl, rfl, ok_of (w_coT rfl (hG _ (List.mem_map.mpr ⟨p, hp, rfl⟩)) (Nat.le_trans (hdp p hp) (by decide)) rfl ⟨rfl, rfl⟩)⟩) hlz) ?_
      repeat' walk_at "rf"
      · rename_i ht
        exact absurd rfl ht
      refine wp.eq (lc_eqD (f := rd) (g := evD x) hdl rs (fun p hp => ⟨_, rfl, rfl, ok_of (w_mtT rfl (hG _ (List.mem_map.mpr ⟨p, hp, rfl⟩)) (Nat.le_trans (hdp p hp) (by decide)) rfl ⟨rfl, rfl⟩)⟩) hlz) ?_
      repeat' walk_at "rf"
      · rename_i ht
        exact absurd rfl ht
      show Iw _
      exact ⟨_, _, _, _, _, _, _, _, _, _, _, _, _, _, _, rfl, by repeat (first | with_reducible assumption | with_reducible apply Gt.tl), DkE.le (by with_reducible assumption) (by omega), rfl⟩
    · rintro j L S ⟨V, y0, y1, z3, z4, z5, z6, z7, z8, z9, z10, z11, z12, z13, z14, rfl, hG, hd, rfl⟩
      repeat' walk_at "rf"
end
end
theorem _root_.Lw.law_true (ns : List Int) (h : ns.length ≤ 63) : ∃ S, c_law [.scr ns] [] = .ok (.bl true) S := by
  obtain ⟨d, S, e, rfl⟩ := (law_main ns h).ex
  exact ⟨S, e⟩
end Rf
set_option Elab.async false
set_option linter.all false
set_option maxRecDepth 100000
set_option maxHeartbeats 0
theorem PySem.Challenge.cw_maybesame_k44_whole_rules_as_an_algebra_holds : PySem.Challenge.rw_maybesame_k44_whole_rules_as_an_algebra.Holds :=
  Lw.cw_of Lw.law_true

import PyProof.Rows.All
import Wide.All
import OpenK.AllK
import Wide.FinOn
import PySem.Challenge.RW_cappedcalls_k05_schema_equal_and_uncappe
import HandS.ForMost
import HandS.Exc
import HandS.TryOnly
import HandS.ExcOwn
import HandS.WordsExc
import HandS.CallSlots
import HandS.Wide
import HandS.IsInst
import HandS.Rev
import HandS.Conv
import HandS.Deep
import HandS.TupAny
import HandS.Dict
import HandS.More
import HandS.Small
import HandS.DictComp
import KE.KEqDict
import HandS.Text
import HandS.WordsDict
import HandS.Property
import HandS.ExcInit
import HandS.ExcField
import HandS.ExcIs
import HandS.Ends
import KE.DataCmp
set_option Elab.async false
set_option linter.all false
set_option maxRecDepth 100000
set_option autoImplicit false
/-! G1: plain values, plain stores, and how the layer's heap bears them. -/
namespace G
open PySem PySem.Spec PyProof.Rows L2

/-- plain values: tuples by value, all that changes by reference -/
inductive D where
  | non | bl (b : Bool) | int (i : Int) | str (x : Str) | tup (ds : List D) | flst (ds : List D) | ref (n : Nat)

inductive O where
  | lst (ds : List D)
  | ins (c : Str) (fs : List (Str × D))
  | dct (kvs : List (Key × D))
  | frd (kvs : List (Key × D))
abbrev S := List O
inductive R (α : Type) where
  | ok (a : α) (s : S)
  | exc (c : Str) (fs : List (Str × D)) (s : S)
  | bad
def R.bind {α β : Type} : R α → (α → S → R β) → R β
  | .ok a s, f => f a s
  | .exc c fs s, _ => .exc c fs s
  | .bad, _ => .bad
@[simp] theorem R.bind_ok {α β : Type} (a : α) (s : S) (f : α → S → R β) : (R.ok a s).bind f = f a s := rfl
@[simp] theorem R.bind_exc {α β : Type} (c fs) (s : S) (f : α → S → R β) : (R.exc c fs s).bind f = .exc c fs s := rfl
@[simp] theorem R.bind_bad {α β : Type} (f : α → S → R β) : (R.bad).bind f = .bad := rfl

/-- the surroundings: the written part, the classes' places -/
structure Su where
  K : PySem.W.Frag
  cad : Str → Addr
  exi : Option Nat := none
  exa : Addr := 0
  exo : Option Addr := none
  exD : List (Str × D) := []
  exV : List (Str × V) := []

def KTup (K : PySem.W.Frag) (a : Addr) (xs : List V) : Prop :=
  ∃ (o : Obj) (its : Array Value) (n : Nat), K.lookup a = some o ∧ o.cls = .type "tuple" ∧ o.data = .seq its n ∧ its.size ≤ sizeLine ∧ Vals xs its.toList
def KLst (K : PySem.W.Frag) (a : Addr) (xs : List V) : Prop :=
  ∃ (o : Obj) (its : Array Value) (n : Nat), K.lookup a = some o ∧ o.cls = .type "list" ∧ o.dict = none ∧ o.data = .seq its n ∧ its.size ≤ sizeLine ∧ Vals xs its.toList
def TupAt (K : PySem.W.Frag) (H : Hp) (a : Addr) (xs : List V) : Prop := H a = some (.tup xs) ∨ KTup K a xs
def FroAt (K : PySem.W.Frag) (H : Hp) (a : Addr) (xs : List V) : Prop := (∃ o, H a = some (.frz o (.lst xs))) ∨ KLst K a xs
theorem FroAt.sq {K : PySem.W.Frag} {H : Hp} {a : Addr} {xs : List V} (h : FroAt K H a xs) : SqL K H a xs := by
  rcases h with ⟨o, h⟩ | h
  · exact .inl (.inr ⟨o, h⟩)
  · exact .inr h
theorem TupAt.sq {K : PySem.W.Frag} {H : Hp} {a : Addr} {xs : List V} (h : TupAt K H a xs) : SqT K H a xs := by
  rcases h with h | h
  · exact .inl (.inl h)
  · exact .inr h

mutual
def Rep (K : PySem.W.Frag) (ι : List Addr) (H : Hp) : D → V → Prop
  | .non, v => v = .non
  | .bl b, v => v = .bl b
  | .int i, v => v = .int i
  | .str x, v => v = .str x
  | .tup ds, v => ∃ a vs, v = .ref a ∧ TupAt K H a vs ∧ Reps K ι H ds vs
  | .flst ds, v => ∃ a vs, v = .ref a ∧ FroAt K H a vs ∧ Reps K ι H ds vs
  | .ref n, v => ∃ a, v = .ref a ∧ ι[n]? = some a
def Reps (K : PySem.W.Frag) (ι : List Addr) (H : Hp) : List D → List V → Prop
  | [], vs => vs = []
  | d :: ds, vs => ∃ v ws, vs = v :: ws ∧ Rep K ι H d v ∧ Reps K ι H ds ws
end
def RepF {κ : Type} (K : PySem.W.Frag) (ι : List Addr) (H : Hp) : List (κ × D) → List (κ × V) → Prop
  | [], vs => vs = []
  | d :: ds, vs => ∃ v ws, vs = (d.1, v) :: ws ∧ Rep K ι H d.2 v ∧ RepF K ι H ds ws

/-- the places go on -/
def Ext (ι ι' : List Addr) : Prop := ∃ l, ι' = ι ++ l
theorem Ext.refl (ι : List Addr) : Ext ι ι := ⟨[], by simp⟩
theorem Ext.trans {a b c : List Addr} (h : Ext a b) (k : Ext b c) : Ext a c := by
  obtain ⟨l, rfl⟩ := h
  obtain ⟨m, rfl⟩ := k
  exact ⟨l ++ m, by simp⟩
theorem Ext.at {a b : List Addr} (h : Ext a b) {n : Nat} {x : Addr} (e : a[n]? = some x) : b[n]? = some x := by
  obtain ⟨l, rfl⟩ := h
  rw [List.getElem?_append_left (List.getElem?_eq_some_iff.mp e).1]
  exact e
theorem Ext.one (ι : List Addr) (p : Addr) : Ext ι (ι ++ [p]) := ⟨[p], rfl⟩
/-- what never changes -/
def Stb : HO → Prop
  | .tup _ => True
  | .frz _ (.lst _) => True
  | .xd _ => True
  | _ => False
def Kept (H H' : Hp) : Prop := ∀ a u, H a = some u → Stb u → H' a = some u
theorem Kept.refl (H : Hp) : Kept H H := fun _ _ h _ => h
theorem Kept.trans {a b c : Hp} (h : Kept a b) (k : Kept b c) : Kept a c := fun x u e z => k x u (h x u e z) z
theorem Same.kept {H H' : Hp} (h : Same H H') : Kept H H' := fun a u e _ => h a _ e
theorem same_new {H : Hp} {p : Addr} {o : HO} (h : H p = none) : Same H (upd H p o) := fun b u e => by
  rw [upd_ne (ne_of_none e h)]
  exact e
theorem TupAt.kept {K : PySem.W.Frag} {H H' : Hp} {a : Addr} {xs : List V} (k : Kept H H') (h : TupAt K H a xs) : TupAt K H' a xs := by
  rcases h with h | h
  · exact .inl (k _ _ h True.intro)
  · exact .inr h
theorem FroAt.kept {K : PySem.W.Frag} {H H' : Hp} {a : Addr} {xs : List V} (k : Kept H H') (h : FroAt K H a xs) : FroAt K H' a xs := by
  rcases h with ⟨o, h⟩ | h
  · exact .inl ⟨o, k _ _ h True.intro⟩
  · exact .inr h

/-- from one moment to a later one: new places were free; what is not a place of ours stays; nothing tracked is lost -/
structure Go (ι : List Addr) (H : Hp) (ι' : List Addr) (H' : Hp) : Prop where
  ext : ∃ l, ι' = ι ++ l ∧ ∀ a ∈ l, H a = none
  keep : ∀ a u, H a = some u → a ∉ ι → H' a = some u
  tups : Kept H H'
  there : ∀ a, H a ≠ none → H' a ≠ none
  fz : ∀ a o vs, H a = some (.frz o (.dK vs)) → H' a = some (.frz o (.dK vs))
theorem Go.refl (ι : List Addr) (H : Hp) : Go ι H ι H := ⟨⟨[], by simp⟩, fun _ _ h _ => h, Kept.refl H, fun _ h => h, fun _ _ _ h => h⟩
theorem Go.ex {ι ι' : List Addr} {H H' : Hp} (h : Go ι H ι' H') : Ext ι ι' := let ⟨l, e, _⟩ := h.ext; ⟨l, e⟩
theorem Go.trans {ι ι1 ι2 : List Addr} {H H1 H2 : Hp} (h : Go ι H ι1 H1) (k : Go ι1 H1 ι2 H2) : Go ι H ι2 H2 := by
  obtain ⟨l, rfl, hl⟩ := h.ext
  obtain ⟨m, rfl, hm⟩ := k.ext
  refine ⟨⟨l ++ m, by simp, fun a ha => ?_⟩, fun a u e n => ?_, h.tups.trans k.tups, fun a z => k.there a (h.there a z), fun a o vs z => k.fz a o vs (h.fz a o vs z)⟩
  · rcases List.mem_append.mp ha with ha | ha
    · exact hl a ha
    · have q := hm a ha
      cases z : H a with
      | none => rfl
      | some u => exact absurd q (h.there a (by rw [z]; exact fun w => nomatch w))
  · refine k.keep a u (h.keep a u e n) fun z => ?_
    rcases List.mem_append.mp z with z | z
    · exact n z
    · rw [hl a z] at e; cases e
theorem Go.same {ι : List Addr} {H H' : Hp} (k : Same H H') : Go ι H ι H' where
  ext := ⟨[], by simp⟩
  keep := fun _ _ h _ => k _ _ h
  tups := Same.kept k
  there := fun a h => by
    cases z : H a with
    | none => exact absurd z h
    | some u => rw [k a u z]; exact fun w => nomatch w
  fz := fun _ _ _ h => k _ _ h
theorem Go.new {ι : List Addr} {H H' : Hp} {p : Addr} (k : Same H H') (hp : H p = none) : Go ι H (ι ++ [p]) H' :=
  ⟨⟨[p], rfl, fun a ha => by
    have e : a = p := by simpa using ha
    rw [e]; exact hp⟩, fun _ _ h _ => k _ _ h, Same.kept k, (Go.same (ι := ι) k).there, (Go.same (ι := ι) k).fz⟩

section
variable {K : PySem.W.Frag} {ι ι' : List Addr} {H H' : Hp}
mutual
theorem Rep.mono (e : Ext ι ι') (k : Kept H H') : ∀ {d : D} {v : V}, Rep K ι H d v → Rep K ι' H' d v
  | .non, _, h => h
  | .bl _, _, h => h
  | .int _, _, h => h
  | .str _, _, h => h
  | .tup ds, _, h => by
    simp only [Rep] at h ⊢
    obtain ⟨a, vs, h1, h2, h3⟩ := h
    exact ⟨a, vs, h1, h2.kept k, Reps.mono e k h3⟩
  | .flst ds, _, h => by
    simp only [Rep] at h ⊢
    obtain ⟨a, vs, h1, h2, h3⟩ := h
    exact ⟨a, vs, h1, h2.kept k, Reps.mono e k h3⟩
  | .ref n, _, h => by
    simp only [Rep] at h ⊢
    obtain ⟨a, h1, h2⟩ := h
    exact ⟨a, h1, e.at h2⟩
theorem Reps.mono (e : Ext ι ι') (k : Kept H H') : ∀ {ds : List D} {vs : List V}, Reps K ι H ds vs → Reps K ι' H' ds vs
  | [], _, h => h
  | d :: ds, _, h => by
    simp only [Reps] at h ⊢
    obtain ⟨v, ws, h1, h2, h3⟩ := h
    exact ⟨v, ws, h1, Rep.mono e k h2, Reps.mono e k h3⟩
end
theorem RepF.mono {κ : Type} (e : Ext ι ι') (k : Kept H H') : ∀ {ds : List (κ × D)} {vs : List (κ × V)}, RepF K ι H ds vs → RepF K ι' H' ds vs
  | [], _, h => h
  | d :: ds, _, h => by
    obtain ⟨v, ws, h1, h2, h3⟩ := h
    exact ⟨v, ws, h1, Rep.mono e k h2, RepF.mono e k h3⟩
theorem Reps.nil : Reps K ι H [] [] := by simp [Reps]
theorem Reps.cons {d : D} {v : V} {ds : List D} {vs : List V} (h : Rep K ι H d v) (t : Reps K ι H ds vs) : Reps K ι H (d :: ds) (v :: vs) := by
  simp only [Reps]
  exact ⟨v, vs, rfl, h, t⟩
theorem Reps.length : ∀ {ds : List D} {vs : List V}, Reps K ι H ds vs → vs.length = ds.length
  | [], _, h => by simp only [Reps] at h; subst h; rfl
  | d :: ds, _, h => by
    simp only [Reps] at h
    obtain ⟨v, ws, rfl, h2, h3⟩ := h
    simp [Reps.length h3]
theorem Reps.get : ∀ {ds : List D} {vs : List V} {i : Nat} {d : D}, Reps K ι H ds vs → ds[i]? = some d → ∃ v, vs[i]? = some v ∧ Rep K ι H d v
  | [], _, _, _, _, e => by simp at e
  | d :: ds, _, i, x, h, e => by
    simp only [Reps] at h
    obtain ⟨v, ws, rfl, h2, h3⟩ := h
    cases i with
    | zero => simp at e; subst e; exact ⟨v, rfl, h2⟩
    | succ i =>
      obtain ⟨u, h4, h5⟩ := Reps.get (i := i) (d := x) h3 (by simpa using e)
      exact ⟨u, by simpa using h4, h5⟩
theorem Reps.getV : ∀ {ds : List D} {vs : List V} {i : Nat} {v : V}, Reps K ι H ds vs → vs[i]? = some v → ∃ d, ds[i]? = some d ∧ Rep K ι H d v := by
  intro ds vs i v h e
  have hl := h.length
  have hi : i < ds.length := by
    have := (List.getElem?_eq_some_iff.mp e).1
    omega
  obtain ⟨u, h4, h5⟩ := Reps.get h (List.getElem?_eq_getElem hi)
  rw [e] at h4
  cases h4
  exact ⟨_, List.getElem?_eq_getElem hi, h5⟩
theorem Reps.append : ∀ {ds es : List D} {vs ws : List V}, Reps K ι H ds vs → Reps K ι H es ws → Reps K ι H (ds ++ es) (vs ++ ws)
  | [], _, _, _, h, g => by simp only [Reps] at h; subst h; exact g
  | d :: ds, _, _, _, h, g => by
    simp only [Reps] at h
    obtain ⟨v, us, rfl, h2, h3⟩ := h
    exact Reps.cons h2 (Reps.append h3 g)
theorem Reps.set : ∀ {ds : List D} {vs : List V} {i : Nat} {d : D} {v : V}, Reps K ι H ds vs → Rep K ι H d v → Reps K ι H (ds.set i d) (vs.set i v)
  | [], _, _, _, _, h, _ => by simp only [Reps] at h; subst h; exact Reps.nil
  | d :: ds, _, i, _, _, h, g => by
    simp only [Reps] at h
    obtain ⟨v, us, rfl, h2, h3⟩ := h
    cases i with
    | zero => exact Reps.cons g h3
    | succ i => exact Reps.cons h2 (Reps.set h3 g)
theorem Reps.drop : ∀ {ds : List D} {vs : List V} (n : Nat), Reps K ι H ds vs → Reps K ι H (ds.drop n) (vs.drop n)
  | _, _, 0, h => by simpa using h
  | [], _, n + 1, h => by simp only [Reps] at h; subst h; exact Reps.nil
  | d :: ds, _, n + 1, h => by
    simp only [Reps] at h
    obtain ⟨v, us, rfl, h2, h3⟩ := h
    exact Reps.drop n h3
theorem Reps.take : ∀ {ds : List D} {vs : List V} (n : Nat), Reps K ι H ds vs → Reps K ι H (ds.take n) (vs.take n)
  | _, _, 0, h => by simp [Reps]
  | [], _, n + 1, h => by simp only [Reps] at h; subst h; exact Reps.nil
  | d :: ds, _, n + 1, h => by
    simp only [Reps] at h
    obtain ⟨v, us, rfl, h2, h3⟩ := h
    exact Reps.cons h2 (Reps.take n h3)
theorem Reps.ints : ∀ {ns : List Int}, Reps K ι H (ns.map D.int) (ns.map V.int)
  | [] => Reps.nil
  | n :: ns => Reps.cons (by simp [Rep]) Reps.ints
end

/-- what stands at a place -/
def ObR (U : Su) (ι : List Addr) (H : Hp) (a : Addr) : O → Prop
  | .lst ds => ∃ vs, H a = some (.lst vs) ∧ Reps U.K ι H ds vs
  | .ins c fs => ∃ dx vs, H a = some (.ins (U.cad c) dx vs) ∧ RepF U.K ι H fs vs
  | .dct kvs => ∃ vs, H a = some (.dK vs) ∧ RepF U.K ι H kvs vs
  | .frd kvs => ∃ od vs, H a = some (.frz od (.dK vs)) ∧ RepF U.K ι H kvs vs
structure RelS (U : Su) (ι : List Addr) (s : S) (H : Hp) : Prop where
  len : ι.length = s.length
  ob : ∀ (n : Nat) (o : O), s[n]? = some o → ∃ a, ι[n]? = some a ∧ ObR U ι H a o
  inj : ∀ (n m : Nat) (a : Addr), ι[n]? = some a → ι[m]? = some a → n = m
section
variable {U : Su} {ι ι' : List Addr} {H H' : Hp} {s : S}
theorem ObR.same {a : Addr} {o : O} (e : Ext ι ι') (k : Kept H H') (hs : ∀ u, H a = some u → H' a = some u) (h : ObR U ι H a o) : ObR U ι' H' a o := by
  cases o with
  | lst ds => obtain ⟨vs, h1, h2⟩ := h; exact ⟨vs, hs _ h1, h2.mono e k⟩
  | ins c fs => obtain ⟨dx, vs, h1, h2⟩ := h; exact ⟨dx, vs, hs _ h1, h2.mono e k⟩
  | dct fs => obtain ⟨vs, h1, h2⟩ := h; exact ⟨vs, hs _ h1, h2.mono e k⟩
  | frd fs => obtain ⟨od, vs, h1, h2⟩ := h; exact ⟨od, vs, hs _ h1, h2.mono e k⟩
theorem ObR.some {a : Addr} {o : O} (h : ObR U ι H a o) : ∃ u, H a = Option.some u ∧ ¬ Stb u := by
  cases o with
  | lst ds => obtain ⟨vs, h1, h2⟩ := h; exact ⟨_, h1, fun z => z⟩
  | ins c fs => obtain ⟨dx, vs, h1, h2⟩ := h; exact ⟨_, h1, fun z => z⟩
  | dct fs => obtain ⟨vs, h1, h2⟩ := h; exact ⟨_, h1, fun z => z⟩
  | frd fs => obtain ⟨od, vs, h1, h2⟩ := h; exact ⟨_, h1, fun z => z⟩
/-- a place that is written -/
theorem ObR.nofz {a : Addr} {o : O} (h : ObR U ι H a o) (n : ∀ k, o ≠ .frd k) : ∀ od vs, H a ≠ Option.some (.frz od (.dK vs)) := fun od vs e => by
  cases o with
  | lst ds => obtain ⟨vs, h1, h2⟩ := h; rw [e] at h1; cases h1
  | ins c fs => obtain ⟨dx, vs, h1, h2⟩ := h; rw [e] at h1; cases h1
  | dct fs => obtain ⟨vs, h1, h2⟩ := h; rw [e] at h1; cases h1
  | frd fs => exact n fs rfl
theorem RelS.at (h : RelS U ι s H) {n : Nat} {a : Addr} {o : O} (e : s[n]? = some o) (i : ι[n]? = some a) : ObR U ι H a o := by
  obtain ⟨b, h1, h2⟩ := h.ob n o e
  rw [i] at h1
  cases h1
  exact h2
/-- nothing that stood has changed -/
theorem RelS.same (h : RelS U ι s H) (k : Same H H') : RelS U ι s H' :=
  ⟨h.len, fun n o e => let ⟨a, h1, h2⟩ := h.ob n o e; ⟨a, h1, h2.same (Ext.refl _) (Same.kept k) (fun u z => k _ _ z)⟩, h.inj⟩
theorem RelS.tup (h : RelS U ι s H) {p : Addr} {xs : List V} (hp : H p = none) : RelS U ι s (upd H p (.tup xs)) := h.same (same_new hp)
theorem RelS.mem (h : RelS U ι s H) {a : Addr} (m : a ∈ ι) : ∃ u, H a = Option.some u ∧ ¬ Stb u := by
  obtain ⟨n, hn, e⟩ := List.mem_iff_getElem.mp m
  have hn' : n < s.length := h.len ▸ hn
  exact (h.at (List.getElem?_eq_getElem hn') (by rw [List.getElem?_eq_getElem hn, e])).some
theorem RelS.fresh (h : RelS U ι s H) {a : Addr} (e : H a = none) : a ∉ ι := fun m => by
  obtain ⟨u, q, _⟩ := h.mem m
  rw [q] at e; cases e
/-- a new object -/
theorem RelS.new (h : RelS U ι s H) {p : Addr} {o : O} (hp : H p = none) (hk : Same H H') (ho : ObR U (ι ++ [p]) H' p o) : RelS U (ι ++ [p]) (s ++ [o]) H' := by
  refine ⟨by simp [h.len], fun n x e => ?_, fun n m a h1 h2 => ?_⟩
  · by_cases hn : n < s.length
    · rw [List.getElem?_append_left hn] at e
      obtain ⟨a, h1, h2⟩ := h.ob n x e
      exact ⟨a, (Ext.one _ _).at h1, h2.same (Ext.one _ _) (Same.kept hk) (fun u z => hk _ _ z)⟩
    · rw [List.getElem?_append_right (by omega)] at e
      have hn0 : n - s.length = 0 := by
        have := (List.getElem?_eq_some_iff.mp e).1
        simp at this
        omega
      rw [hn0] at e
      simp at e
      subst e
      refine ⟨p, ?_, ho⟩
      have : n = ι.length := by rw [h.len]; omega
      subst this
      simp
  · have key : ∀ (k : Nat), (ι ++ [p])[k]? = some a → (ι[k]? = some a ∧ a ≠ p) ∨ (k = ι.length ∧ a = p) := by
      intro k e3
      by_cases hk' : k < ι.length
      · rw [List.getElem?_append_left hk'] at e3
        exact .inl ⟨e3, fun z => h.fresh hp (z ▸ List.mem_of_getElem? e3)⟩
      · have hl := (List.getElem?_eq_some_iff.mp e3).1
        simp at hl
        have : k = ι.length := by omega
        refine .inr ⟨this, ?_⟩
        rw [this] at e3
        simp at e3
        exact e3.symm
    rcases key n h1 with ⟨a2, a3⟩ | ⟨a1, a2⟩ <;> rcases key m h2 with ⟨b2, b3⟩ | ⟨b1, b2⟩
    · exact h.inj n m a a2 b2
    · exact absurd b2 a3
    · exact absurd a2 b3
    · omega
/-- an object is changed -/
theorem RelS.put (h : RelS U ι s H) {n : Nat} {a : Addr} {o o' : O} {u : HO} (nf : ∀ k, o ≠ .frd k) (e : s[n]? = some o) (i : ι[n]? = some a) (ho : ObR U ι (upd H a u) a o') : RelS U ι (s.set n o') (upd H a u) ∧ Go ι H ι (upd H a u) := by
  obtain ⟨w, hw, nt⟩ := (h.at e i).some
  have kp : Kept H (upd H a u) := fun b x z st => by
    rw [upd_ne (fun q => by subst q; rw [hw] at z; cases z; exact nt st)]
    exact z
  have go : Go ι H ι (upd H a u) := ⟨⟨[], by simp⟩, fun b v z nb => by
    rw [upd_ne (fun q => nb (by rw [q]; exact List.mem_of_getElem? i))]
    exact z, kp, fun b z => by
    by_cases hb : b = a
    · rw [hb, upd_same]; exact fun w => nomatch w
    · rw [upd_ne hb]; exact z, fun b od vs z => by
    rw [upd_ne (fun q => by subst q; exact (h.at e i).nofz nf od vs z)]
    exact z⟩
  refine ⟨⟨by simp [h.len], fun k x q => ?_, h.inj⟩, go⟩
  by_cases hk : k = n
  · subst hk
    rw [List.getElem?_set_self (List.getElem?_eq_some_iff.mp e).1] at q
    cases q
    exact ⟨a, i, ho⟩
  · rw [List.getElem?_set_ne (Ne.symm hk)] at q
    obtain ⟨b, h1, h2⟩ := h.ob k x q
    have hb : b ≠ a := fun z => hk (h.inj k n a (z ▸ h1) i)
    exact ⟨b, h1, h2.same (Ext.refl _) kp (fun v z => by rw [upd_ne hb]; exact z)⟩
end

/-- frames -/
abbrev Fr := List (Option D)
/-- the caught exception's fields -/
def ExF (U : Su) (ι : List Addr) (H : Hp) : Prop := (U.exo = none ∧ U.exD = []) ∨ ∃ dd, U.exo = some dd ∧ H dd = some (.xd U.exV) ∧ RepF U.K ι H U.exD U.exV
theorem ExF.mono {U : Su} {ι ι' : List Addr} {H H' : Hp} (e : Ext ι ι') (k : Kept H H') (h : ExF U ι H) : ExF U ι' H' := h.imp id fun ⟨dd, c1, c2, c3⟩ => ⟨dd, c1, k _ _ c2 True.intro, c3.mono e k⟩
def RelF (U : Su) (ι : List Addr) (H : Hp) (τ : Fr) (σ : L2.St) : Prop := τ.length = σ.length ∧ (∀ (i : Nat) d, τ[i]? = some (some d) → ∃ v, σ[i]? = some (some v) ∧ Rep U.K ι H d v) ∧
  ∀ i, U.exi = some i → (∀ v, σ[i]? = some v → v = some (.ref U.exa)) ∧ ExF U ι H
section
variable {U : Su} {ι ι' : List Addr} {H H' : Hp} {τ : Fr} {σ : L2.St}
theorem RelF.mono (e : Ext ι ι') (k : Kept H H') (h : RelF U ι H τ σ) : RelF U ι' H' τ σ :=
  ⟨h.1, fun i d z => let ⟨v, h1, h2⟩ := h.2.1 i d z; ⟨v, h1, h2.mono e k⟩, fun i hi => let ⟨a, b⟩ := h.2.2 i hi; ⟨a, b.mono e k⟩⟩
theorem RelF.set (h : RelF U ι H τ σ) {i : Nat} {d : D} {v : V} (hx : U.exi ≠ some i) (r : Rep U.K ι H d v) : RelF U ι H (τ.set i (some d)) (σ.set i (some v)) := by
  refine ⟨by simp [h.1], fun j x e => ?_, fun j hj => ⟨fun w hw => ?_, (h.2.2 j hj).2⟩⟩
  · by_cases hj : j = i
    · subst hj
      have hl : j < τ.length := by have := (List.getElem?_eq_some_iff.mp e).1; simpa using this
      rw [List.getElem?_set_self hl] at e
      cases e
      exact ⟨v, List.getElem?_set_self (h.1 ▸ hl), r⟩
    · rw [List.getElem?_set_ne (Ne.symm hj)] at e ⊢
      exact h.2.1 j x e
  · rw [List.getElem?_set_ne (fun q => hx (by rw [q]; exact hj))] at hw
    exact (h.2.2 j hj).1 w hw
end

theorem Go.notin {ι ι' : List Addr} {H H' : Hp} {a : Addr} {u : HO} (g : Go ι H ι' H') (e : H a = some u) (n : a ∉ ι) : a ∉ ι' := by
  obtain ⟨l, rfl, hl⟩ := g.ext
  intro m
  rcases List.mem_append.mp m with m | m
  · exact n m
  · rw [hl a m] at e; cases e
/-- a place that is none of ours is written -/
theorem RelS.off {U : Su} {ι : List Addr} {H : Hp} {s : S} (h : RelS U ι s H) {a : Addr} {u o : HO} (n : a ∉ ι) (e : H a = some u) (st : ¬ Stb u) : RelS U ι s (upd H a o) ∧ Kept H (upd H a o) := by
  have kp : Kept H (upd H a o) := fun b x z y => by
    rw [upd_ne (fun q => by subst q; rw [e] at z; cases z; exact st y)]
    exact z
  refine ⟨⟨h.len, fun k x q => ?_, h.inj⟩, kp⟩
  obtain ⟨b, h1, h2⟩ := h.ob k x q
  have hb : b ≠ a := fun z => n (z ▸ List.mem_of_getElem? h1)
  exact ⟨b, h1, h2.same (Ext.refl _) kp (fun v z => by rw [upd_ne hb]; exact z)⟩
theorem Go.off {ι ι' : List Addr} {H H' : Hp} {a : Addr} {o : HO} (g : Go ι H ι' H') (e : H a = none) (kp : Kept H' (upd H' a o)) : Go ι H ι' (upd H' a o) :=
  ⟨g.ext, fun b u q n => by
    rw [upd_ne (fun z => by subst z; rw [e] at q; cases q)]
    exact g.keep b u q n, g.tups.trans kp, fun b z => by
    by_cases hb : b = a
    · rw [hb, upd_same]; exact fun w => nomatch w
    · rw [upd_ne hb]; exact g.there b z, fun b od vs z => by
    rw [upd_ne (fun q => by subst q; rw [e] at z; cases z)]
    exact g.fz b od vs z⟩

/-- an exception's own fields, at its dict -/
def ExR (U : Su) (ι : List Addr) (H : Hp) (fs : List (Str × D)) (o : Option Addr) : Prop := (o = none ∧ fs = []) ∨ ∃ a vs, o = some a ∧ H a = some (.xd vs) ∧ RepF U.K ι H fs vs

/-! ### what is wanted behind -/
section
variable {α β : Type}
def Post (U : Su) (rel : List Addr → Hp → α → β → Prop) (W : WX) (σ : L2.St) (ι : List Addr) (H : Hp) (r : R α) (Q : β → Hp → Prop) : Prop :=
  match r with
  | .ok d s => ∀ ι' H' v, Go ι H ι' H' → RelS U ι' s H' → rel ι' H' d v → Q v H'
  | .exc c fs s => ∀ ι' H' a, Go ι H ι' H' → RelS U ι' s H' → ExR U ι' H' fs a → W (.ref (U.cad c)) a σ H'
  | .bad => False
variable {U : Su} {rel : List Addr → Hp → α → β → Prop} {W : WX} {σ : L2.St} {ι ι' : List Addr} {H H' : Hp} {r : R α} {Q Q' : β → Hp → Prop}
theorem Post.mono (e : Go ι H ι' H') (h : Post U rel W σ ι H r Q) : Post U rel W σ ι' H' r Q := by
  cases r with
  | ok d s => exact fun ι2 H2 v e2 => h ι2 H2 v (e.trans e2)
  | exc c fs s => exact fun ι2 H2 v e2 => h ι2 H2 v (e.trans e2)
  | bad => exact h
theorem Post.imp (h : Post U rel W σ ι H r Q) (hq : ∀ v H, Q v H → Q' v H) : Post U rel W σ ι H r Q' := by
  cases r with
  | ok d s => exact fun ι2 H2 v e2 q1 q2 => hq _ _ (h ι2 H2 v e2 q1 q2)
  | exc c fs s => exact h
  | bad => exact h
theorem Post.bind {γ δ : Type} {rel' : List Addr → Hp → γ → δ → Prop} {f : α → S → R γ} {Q : δ → Hp → Prop} (h : Post U rel' W σ ι H (r.bind f) Q) :
    Post U rel W σ ι H r (fun v H1 => ∃ ι1 s1 d, RelS U ι1 s1 H1 ∧ rel ι1 H1 d v ∧ Go ι H ι1 H1 ∧ Post U rel' W σ ι1 H1 (f d s1) Q) := by
  cases r with
  | ok d s => exact fun ι2 H2 v e2 q1 q2 => ⟨ι2, s, d, q1, q2, e2, Post.mono e2 h⟩
  | exc c fs s => exact h
  | bad => exact h
end
theorem R.bind_assoc {α β γ : Type} (r : R α) (f : α → S → R β) (g : β → S → R γ) : (r.bind f).bind g = r.bind fun a s => (f a s).bind g := by cases r <;> rfl
section
variable {α β γ δ : Type} {U : Su} {rel : List Addr → Hp → α → β → Prop} {rel' : List Addr → Hp → γ → δ → Prop} {W W' : WX} {σ σ' : L2.St} {ι ι2 : List Addr} {H H2 : Hp} {r : R α}
/-- the run goes on from a later moment, what is wanted is said from the first one -/
theorem Post.bindG {f : α → S → R γ} {Q : δ → Hp → Prop} (go : Go ι H ι2 H2) (h : Post U rel' W σ ι H (r.bind f) Q) :
    Post U rel W σ ι2 H2 r (fun v H3 => ∃ ι3 s3 d, RelS U ι3 s3 H3 ∧ rel ι3 H3 d v ∧ Go ι2 H2 ι3 H3 ∧ Post U rel' W σ ι H (f d s3) Q) := by
  cases r with
  | ok d s => exact fun ι3 H3 v e q1 q2 => ⟨ι3, s, d, q1, q2, e, h⟩
  | exc c fs s => exact fun ι3 H3 a e q1 q2 => h ι3 H3 a (go.trans e) q1 q2
  | bad => exact h
theorem Post.sw {Q : β → Hp → Prop} (n : ∀ c fs s, r ≠ .exc c fs s) (h : Post U rel W σ ι H r Q) : Post U rel W' σ' ι H r Q := by
  cases r with
  | ok d s => exact h
  | exc c fs s => exact (n c fs s rfl).elim
  | bad => exact h
end
abbrev RD (U : Su) : List Addr → Hp → D → V → Prop := fun ι H d v => Rep U.K ι H d v
abbrev RDs (U : Su) : List Addr → Hp → List D → List V → Prop := fun ι H d v => Reps U.K ι H d v
abbrev RB : List Addr → Hp → Bool → Bool → Prop := fun _ _ b c => c = b

/-- a statement's ends -/
inductive SR where
  | nx (τ : Fr) (s : S) | rt (d : D) (s : S) | bk (τ : Fr) (s : S) | ct (τ : Fr) (s : S)
  | exc (τ : Fr) (c : Str) (fs : List (Str × D)) (s : S) | bad
def SR.bind : SR → (Fr → S → SR) → SR
  | .nx τ s, f => f τ s
  | r, _ => r
@[simp] theorem SR.bind_nx (τ s) (f : Fr → S → SR) : (SR.nx τ s).bind f = f τ s := rfl
@[simp] theorem SR.bind_rt (d s) (f : Fr → S → SR) : (SR.rt d s).bind f = .rt d s := rfl
@[simp] theorem SR.bind_bk (d s) (f : Fr → S → SR) : (SR.bk d s).bind f = .bk d s := rfl
@[simp] theorem SR.bind_ct (d s) (f : Fr → S → SR) : (SR.ct d s).bind f = .ct d s := rfl
@[simp] theorem SR.bind_exc (τ c fs s) (f : Fr → S → SR) : (SR.exc τ c fs s).bind f = .exc τ c fs s := rfl
@[simp] theorem SR.bind_bad (f : Fr → S → SR) : (SR.bad).bind f = .bad := rfl
/-- an expression's value into a statement -/
def R.toS {α : Type} (τ : Fr) : R α → (α → S → SR) → SR
  | .ok a s, f => f a s
  | .exc c fs s, _ => .exc τ c fs s
  | .bad, _ => .bad
@[simp] theorem R.toS_ok {α : Type} (τ : Fr) (a : α) (s : S) (f : α → S → SR) : (R.ok a s).toS τ f = f a s := rfl
@[simp] theorem R.toS_exc {α : Type} (τ : Fr) (c fs) (s : S) (f : α → S → SR) : (R.exc c fs s).toS τ f = .exc τ c fs s := rfl
@[simp] theorem R.toS_bad {α : Type} (τ : Fr) (f : α → S → SR) : (R.bad).toS τ f = .bad := rfl
section
variable {U : Su} {W : WX} {σ : L2.St} {ι ι' : List Addr} {H H' : Hp} {E E' : Ends}
def PostS (U : Su) (W : WX) (E : Ends) (ι : List Addr) (H : Hp) (r : SR) : Prop :=
  match r with
  | .nx τ s => ∀ ι' H' σ, Go ι H ι' H' → RelS U ι' s H' → RelF U ι' H' τ σ → E.nx σ H'
  | .rt d s => ∀ ι' H' v, Go ι H ι' H' → RelS U ι' s H' → Rep U.K ι' H' d v → E.rt v H'
  | .bk τ s => ∀ ι' H' σ, Go ι H ι' H' → RelS U ι' s H' → RelF U ι' H' τ σ → E.bk σ H'
  | .ct τ s => ∀ ι' H' σ, Go ι H ι' H' → RelS U ι' s H' → RelF U ι' H' τ σ → E.ct σ H'
  | .exc τ c fs s => ∀ ι' H' σ a, Go ι H ι' H' → RelS U ι' s H' → RelF U ι' H' τ σ → ExR U ι' H' fs a → W (.ref (U.cad c)) a σ H'
  | .bad => False
theorem PostS.mono {r : SR} (e : Go ι H ι' H') (h : PostS U W E ι H r) : PostS U W E ι' H' r := by
  cases r with
  | bad => exact h
  | exc τ c fs s => exact fun ι2 H2 σ a e2 => h ι2 H2 σ a (e.trans e2)
  | nx τ s => exact fun ι2 H2 v e2 => h ι2 H2 v (e.trans e2)
  | rt τ s => exact fun ι2 H2 v e2 => h ι2 H2 v (e.trans e2)
  | bk τ s => exact fun ι2 H2 v e2 => h ι2 H2 v (e.trans e2)
  | ct τ s => exact fun ι2 H2 v e2 => h ι2 H2 v (e.trans e2)
theorem PostS.bind {r : SR} {f : Fr → S → SR} (h : PostS U W E ι H (r.bind f)) :
    PostS U W { E with nx := fun σ H1 => ∃ ι1 s1 τ, RelS U ι1 s1 H1 ∧ RelF U ι1 H1 τ σ ∧ Go ι H ι1 H1 ∧ PostS U W E ι1 H1 (f τ s1) } ι H r := by
  cases r with
  | nx τ s => exact fun ι2 H2 v e2 q1 q2 => ⟨ι2, s, τ, q1, q2, e2, PostS.mono e2 h⟩
  | _ => exact h
theorem PostS.toS {α β : Type} {rel : List Addr → Hp → α → β → Prop} {τ : Fr} {r : R α} {f : α → S → SR} (hf : RelF U ι H τ σ) (h : PostS U W E ι H (r.toS τ f)) :
    Post U rel W σ ι H r (fun v H1 => ∃ ι1 s1 d, RelS U ι1 s1 H1 ∧ rel ι1 H1 d v ∧ RelF U ι1 H1 τ σ ∧ Go ι H ι1 H1 ∧ PostS U W E ι1 H1 (f d s1)) := by
  cases r with
  | ok d s => exact fun ι2 H2 v e2 q1 q2 => ⟨ι2, s, d, q1, q2, hf.mono e2.ex e2.tups, e2, PostS.mono e2 h⟩
  | exc c fs s => exact fun ι2 H2 a e2 q1 q2 => h ι2 H2 σ a e2 q1 (hf.mono e2.ex e2.tups) q2
  | bad => exact h
end
end G

set_option Elab.async false
set_option linter.all false
set_option maxRecDepth 100000
set_option autoImplicit false
set_option maxHeartbeats 2000000
/-! GV: list(reversed(a list)). -/
namespace G
open PySem PySem.Spec PyProof.Rows L2 RT
section
variable {prog : Program} {w : World} {A : Around} {E : Value → Shared → Prop} {s : Shared} {R : Result → Shared → Prop}
abbrev FinR (prog : Program) (w : World) (A : Around) (R : Result → Shared → Prop) : PySem.Fin → Shared → Prop := fun fin s' => match fin with
  | .done f => R (.ok f) s'
  | .again c' => c'.quiet = true ∧ codeAny (model prog w) A c' R s'
/-- a list is lengthened by what an iterator from the end gives -/
theorem ext_rev {S it l : Addr} {items : Array Value} {c0 : Nat} {res : Value} (hh : A.handled = none) (hit : s.heap.IsRevIter it l ((items.size : Int) - 1)) (hl : s.heap.IsList l items) (hne : l ≠ it) (hn : items.size ≤ sizeLine)
    (hS : s.heap.get? S = some { cls := .type "list", dict := none, data := .seq #[] c0, slots := #[] }) (hSi : S ≠ it) (hSl : S ≠ l)
    (hR : ∀ (h' : Heap) (tk : Nat) (acc : Array Value) (c : Nat), (∀ b o, b ≠ S → b ≠ it → s.heap.get? b = some o → h'.get? b = some o) → h'.get? S = some { cls := .type "list", dict := none, data := .seq acc c, slots := #[] } → ItemsOf (fun i v => items[items.size - 1 - i]? = some v) acc items.size → R (.ok (.ret res)) { s with heap := h', toks := tk }) :
    wpAny (model prog w) A.in1 (Builtin.List.listExtendWith (.ref S) (.ref it) res) (FinR prog w A R) (fun e s' => R (.error e) s') s := by
  have W := (Walks.listRev (prog := prog) (w := w) (A := A.in1) hh it l hne items).toS
  have hSf : S ∉ [it, l] := by simp only [List.mem_cons, List.not_mem_nil, or_false, not_or]; exact ⟨hSi, hSl⟩
  have hT : s.TypeIs (.ref it) "list_reverseiterator" := Heap.IsRevIter.typeIs (s := s) hit
  have h1 : Builtin.List.listSameRef (.ref S) (.ref it) = false := by simp [Builtin.List.listSameRef, hSi]
  unfold Builtin.List.listExtendWith; refine wpAny_bind (wpAny_typeOf hT ?_); rw [if_neg (by rw [h1]; decide)]
  refine wpAny_bind (wpAny_pyIter_revIter (s := s) hit ?_)
  refine wpAny_bind (wpAny_holding ?_); unfold Builtin.List.listLengthHint; refine wpAny_bind (wpAny_specialOf hT nolen_lri ?_)
  show wpAny _ A.in1 (specialOf (.ref it) (Str.ofString "__length_hint__") >>= _) _ _ _
  refine wpAny_bind (wpAny_specialOf hT hint_lri ?_)
  generalize hid : ("list_reverseiterator.__length_hint__" : String) = id1
  wp_delta
  rw [show splitId id1 = some ("list_reverseiterator", "__length_hint__") from by subst hid; decide +kernel]
  subst hid
  refine wpAny_bind (wpAny_isInstance (b := true) hT (by rw [isSubtype_type]; kernel_rfl) ?_); refine wpAny_pure ?_; rw [if_neg (by decide)]
  have e0 : ((items.size : Nat) : Int) - 1 - ((0 : Nat) : Int) = (items.size : Int) - 1 := by omega
  refine wpAny_pure ⟨plainId_quiet F.plain_extend_loop _, codeAny_extend_loopS W hn S hSf res items.size 0 s #[] c0 rfl (Nat.zero_le _) ⟨Nat.zero_le _, (by rw [e0]; exact hit), hl⟩ hS (ItemsOf.nil _) fun s' acc c hm hS' hacc => ?_⟩
  rw [Moved.eq_with hm]
  refine hR s'.heap s'.toks acc c (fun b o h2 h3 e => hm.heap b o (fun hmem => ?_) e) hS' hacc
  rcases List.mem_cons.mp hmem with e' | hmem
  · exact h2 e'
  · exact h3 (List.mem_singleton.mp hmem)
theorem call_list_rev {it l : Addr} {items : Array Value} {Q : Value → Shared → Prop} (hh : A.handled = none) (hit : s.heap.IsRevIter it l ((items.size : Int) - 1)) (hl : s.heap.IsList l items) (hne : l ≠ it) (hn : items.size ≤ sizeLine)
    (hQ : ∀ (h' : Heap) (tk : Nat) (acc : Array Value) (c : Nat), (∀ b o, b ≠ it → s.heap.get? b = some o → h'.get? b = some o) → h'.get? s.heap.objs.size = some { cls := .type "list", dict := none, data := .seq acc c, slots := #[] } → ItemsOf (fun i v => items[items.size - 1 - i]? = some v) acc items.size → Q (.ref s.heap.objs.size) { s with heap := h', toks := tk }) :
    wpAny (model prog w) A (call (.type "list") [.ref it]) Q E s := by
  obtain ⟨oi, hoi, _⟩ := id hit
  obtain ⟨ol, hol, _⟩ := id hl
  have hSi : s.heap.objs.size ≠ it := Nat.ne_of_gt (Heap.lt_size hoi)
  have hSl : s.heap.objs.size ≠ l := Nat.ne_of_gt (Heap.lt_size hol)
  refine callType_codes (Q₁ := fun obj s₁ => obj = .ref s.heap.objs.size ∧ s₁ = { s with heap := s.heap.push { cls := .type "list", data := .seq #[] } }) F.called_list (F.typeCall_list_1 _) F.entry_list_init (code_list_new _ ⟨rfl, rfl⟩) fun obj s1 h1 => ?_
  obtain ⟨rfl, rfl⟩ := h1
  have hS : (s.heap.push { cls := .type "list", data := .seq #[] }).get? s.heap.objs.size = some { cls := .type "list", data := .seq #[] } := Heap.get?_push_size _ rfl
  refine ⟨⟨_, hS, rfl⟩, F.args_list_init_2 _ _, ?_⟩
  show wpAny _ A.in1.in1 (do let old ← Builtin.List.listItems (.ref s.heap.objs.size); Builtin.List.listUpdate (.ref s.heap.objs.size) (fun _ => #[]); letGo old.toList.reverse; Builtin.List.listExtendWith (.ref s.heap.objs.size) (.ref it) .none) _ _ _
  refine wpAny_bind ?_; unfold Builtin.List.listItems; refine wpAny_bind (wpAny_seqItems hS rfl (wpAny_pure ?_))
  show wpAny _ A.in1.in1 (updateSeq s.heap.objs.size (fun _ => #[]) >>= fun _ => letGo (#[] : Array Value).toList.reverse >>= fun _ => Builtin.List.listExtendWith (.ref s.heap.objs.size) (.ref it) .none) _ _ _
  refine wpAny_bind (wpAny_updateSeq hS rfl ?_)
  have hS2 := Heap.get?_update_self (Obj.mapSeq (fun _ => (#[] : Array Value))) hS rfl
  have oth : ∀ b o, b ≠ s.heap.objs.size → s.heap.get? b = some o → ((s.heap.push { cls := .type "list", data := .seq #[] }).update s.heap.objs.size (Obj.mapSeq (fun _ => (#[] : Array Value)))).get? b = some o :=
    fun b o hb e => (Heap.get?_update_other _ _ (Ne.symm hb)).trans (Heap.get?_push_of_some _ e)
  refine wpAny_bind (wpAny_letGo ?_)
  refine ext_rev (A := A.in1) (items := items) hh (hit.at fun o e => oth _ _ (Ne.symm hSi) e) ?_ hne hn hS2 hSi hSl fun h' tk acc c hk hS' hacc => ?_
  · obtain ⟨o, ho, r⟩ := hl
    exact ⟨o, oth _ _ (Ne.symm hSl) ho, r⟩
  · exact ⟨rfl, hQ h' tk acc c (fun b o hb e => hk b o (Nat.ne_of_lt (Heap.lt_size e)) hb (oth b o (Nat.ne_of_lt (Heap.lt_size e)) e)) hS' hacc⟩
end
def tLstRev (K : PySem.W.Frag) (te : TE) : TE := fun σ H Q => te σ H fun v H1 => ∃ (a : Addr) (xs : List V), v = .ref a ∧ SqL K H1 a xs ∧ ∀ q, H1 q = none → Q (.ref q) (upd H1 q (.lst xs.reverse))
section
variable {X : Cx}
theorem pe_listRev {e : Expr} {te : TE} {p p2 pos pos2 : Pos} (hc : X.calm = true) (hg : Gl X "list") (hm : X.mg "list" = none) (hg2 : Gl X "reversed") (hm2 : X.mg "reversed" = none) (he : PE X e te)
    (hs : starEach [e] X.env = (false, eval e X.env) :: starEach [] X.env := by rfl) (hs2 : starEach [.Call (.Name "reversed" p2) [e] [] pos2] X.env = (false, eval (.Call (.Name "reversed" p2) [e] [] pos2) X.env) :: starEach [] X.env := by rfl) :
    PE X (.Call (.Name "list" p) [.Call (.Name "reversed" p2) [e] [] pos2] [] pos) (tLstRev X.K te) := by
  refine ⟨fun pins s σ H Q I h => ?_⟩
  refine Call_ (ld_blt I hg hm boot_list (callWith_type1 (args_cons (Call_ (ld_blt I hg2 hm2 boot_reversed (callWith_type1 (args_cons (thn (he.run pins s σ H _ I h) fun u s1 ⟨v, H1, I1, r1, q1⟩ => args_nil ?_) hs) hs rfl))) hs2) hs2 rfl))
  obtain ⟨a, xs, ev, hq, q⟩ := q1
  subst ev; obtain rfl : u = Value.ref a := r1
  obtain ⟨its, rv, p', hz⟩ := I1.list hq
  refine call_reversed_list p'.isList (args_nil ?_)
  have k0 : ∀ b o, s1.heap.get? b = some o → (s1.heap.push (revObj a ((its.toArray.size : Int) - 1))).get? b = some o := fun b o e => Heap.get?_push_of_some _ e
  have I2 : Inv X pins σ H1 { s1 with heap := s1.heap.push (revObj a ((its.toArray.size : Int) - 1)) } := I1.kept (t' := s1.toks) k0
  obtain ⟨f0, f1, f2, f3, f4, f5⟩ := I1.fpOk (H' := H1) (b := s1.heap.objs.size) (Nat.le_refl _) (I1.hok.fresh (Nat.le_refl _))
  have hl := p'.isList
  obtain ⟨ol, hol, _⟩ := id hl
  have hne : a ≠ s1.heap.objs.size := Nat.ne_of_lt (Heap.lt_size hol)
  have hn : its.toArray.size ≤ sizeLine := by rw [List.size_toArray, ← rv.length]; exact hz
  refine call_list_rev (s := { s1 with heap := s1.heap.push (revObj a ((its.toArray.size : Int) - 1)) }) (I1.ok.hd hc) ⟨_, Heap.get?_push_size _ rfl, rfl, rfl⟩ (hl.push _) hne hn fun h' tk acc c hk hS' hi => ?_
  have hk' : ∀ b o, s1.heap.get? b = some o → h'.get? b = some o := fun b o e => hk b o (Nat.ne_of_lt (Heap.lt_size e)) (Heap.get?_push_of_some _ e)
  have hle : s1.heap.objs.size ≤ (s1.heap.push (revObj a ((its.toArray.size : Int) - 1))).objs.size := by simp [Heap.push]
  refine ⟨.ref _, upd H1 (s1.heap.push (revObj a ((its.toArray.size : Int) - 1))).objs.size (.lst xs.reverse), I1.laid (t' := tk) hk' hle (show ObjOk X.prog X.w _ _ _ (.lst xs.reverse) from ⟨by rw [List.length_reverse]; exact hz, acc.toList, c, vals_rev rv hi, ?_⟩), rfl, q _ (I1.hok.fresh hle)⟩
  rw [Array.toArray_toList]; exact hS'
end
end G

set_option Elab.async false
set_option linter.all false
set_option maxRecDepth 100000
set_option autoImplicit false
/-! G2: a plain language of expressions and commands, and what it does on plain values and stores. -/
namespace G
open PySem PySem.Spec PyProof.Rows L2

inductive Cst where
  | non | bl (b : Bool) | int (i : Int) | str (x : Str)
def Cst.d : Cst → D
  | .non => .non
  | .bl b => .bl b
  | .int i => .int i
  | .str x => .str x
inductive Bop where
  | add | sub | mul | fdiv | mod | pow
inductive Cop where
  | lt | le | gt | ge | eq | ne | isn | notn | inn | nin
inductive Ty where
  | int | bool | str | list | tuple | dict
def Ty.isList : Ty → Bool
  | .list => true
  | _ => false
def Ty.isDict : Ty → Bool
  | .dict => true
  | _ => false
inductive Bf where
  | len | abs | int | list | tuple | dict | sorted | min | max
/-- a method's name -/
inductive Mf where
  | append | join | clear | get | insert | pop | extend
/-- a method of a built-in type -/
inductive Mi where
  | lappend | sjoin | lclear | dclear | dget | linsert | lpop | lextend | dpop
inductive Tv where
  | var (i : Nat) | tup (is : List Nat)
inductive Ik where
  | seq | rng1 | rng2 | items
mutual
inductive Ex where
  | nop
  | var (i : Nat)
  | cst (c : Cst)
  | glob (i : Nat)
  | bin (o : Bop) (a b : Ex)
  | neg (a : Ex)
  | not (a : Ex)
  | and (a b : Ex)
  | or (a b : Ex)
  | cmp (o : Cop) (a b : Ex)
  | cmp2 (o o' : Cop) (a b c : Ex)
  | ife (c a b : Ex)
  | tup (es : Exs)
  | lst (es : Exs)
  | ix (a i : Ex)
  | sl (a lo hi : Ex)
  | call (f : Nat) (es : Exs)
  | blt (b : Bf) (es : Exs)
  | meth (m : Mf) (o : Ex) (es : Exs)
  | isi (a : Ex) (t : Ty)
  | lc (elt : Ex) (t : Tv) (k : Ik) (its : Exs) (cond : Ex) (own : List (Str × Nat))
  | lrg (a : Ex)
  | dct
  | dc (kx vx : Ex) (t : Tv) (k : Ik) (its : Exs) (own : List (Str × Nat))
  | fld (a : Ex) (f : Str)
  | mc (m : Str) (o : Ex) (es : Exs)
  | mk (c : Str) (es : Exs)
  | isc (a : Ex) (c : Str)
  | lrv (a : Ex)
  | oeq (a b : Ex)
  | efld (i : Nat) (f : Str)
  | eis (i : Nat) (c : Str)
inductive Exs where
  | nil
  | cons (e : Ex) (es : Exs)
end
inductive Tg where
  | loc (t : Tv) | sub (o i : Ex) | fld (o : Ex) (f : Str)
mutual
inductive Cm where
  | asg (t : Tg) (e : Ex)
  | ite (c : Ex) (a b : Cms)
  | for_ (t : Tv) (k : Ik) (its : Exs) (body : Cms)
  | whl (c : Ex) (body : Cms)
  | ret (e : Ex)
  | retn
  | expr (e : Ex)
  | pass
  | brk
  | cont
  | rse (c : Str) (es : Exs)
  | try_ (body : Cms) (hs : Hs)
  | lk (e : Ex) (c : Cm)
inductive Cms where
  | nil
  | cons (c : Cm) (cs : Cms)
inductive Hs where
  | nil
  | cons (c : Str) (as : Option Nat) (suite : Cms) (r : Hs)
end
def Exs.len : Exs → Nat
  | .nil => 0
  | .cons _ es => es.len + 1

/-! ### data behind values -/
mutual
def toP : Nat → S → D → Option PyData
  | _, _, .non => some .none
  | _, _, .bl b => some (.bool b)
  | _, _, .int i => some (.int i)
  | _, _, .str x => some (.str x)
  | 0, _, .tup _ => none
  | 0, _, .flst _ => none
  | 0, _, .ref _ => none
  | k + 1, s, .tup ds => (toPs k s ds).map .tuple
  | k + 1, s, .flst ds => (toPs k s ds).map .list
  | k + 1, s, .ref n => match s[n]? with
    | some (.lst ds) => (toPs k s ds).map .list
    | _ => none
def toPs : Nat → S → List D → Option (List PyData)
  | _, _, [] => some []
  | k, s, d :: ds => match toP k s d, toPs k s ds with
    | some p, some ps => some (p :: ps)
    | _, _ => none
end

def lstAt (s : S) (n : Nat) : Option (List D) := match s[n]? with
  | some (.lst ds) => some ds
  | _ => none
def dctAt (s : S) (n : Nat) : Option (List (Key × D)) := match s[n]? with
  | some (.dct kvs) => some kvs
  | _ => none
def insAt (s : S) (n : Nat) : Option (Str × List (Str × D)) := match s[n]? with
  | some (.ins c fs) => some (c, fs)
  | _ => none
def keyD : D → Option Key
  | .int i => some (.inl i)
  | .str x => some (.inr x)
  | _ => none
def dKey : Key → D
  | .inl i => .int i
  | .inr x => .str x
section
variable {κ α : Type} [DecidableEq κ]
def getK (kvs : List (κ × α)) (k : κ) : Option α := (kvs.find? fun p => decide (p.1 = k)).map (·.2)
def setK (kvs : List (κ × α)) (k : κ) (v : α) : List (κ × α) :=
  if (kvs.any fun p => decide (p.1 = k)) = true then kvs.map (fun p => if p.1 = k then (p.1, v) else p) else kvs ++ [(k, v)]
def dropG (kvs : List (κ × α)) (k : κ) : List (κ × α) := kvs.filter fun p => decide (p.1 ≠ k)
end
def setF (f : Str) (v : D) : List (Str × D) → List (Str × D)
  | [] => [(f, v)]
  | (g, u) :: r => if g = f then (g, v) :: r else (g, u) :: setF f v r
def seqOf (s : S) : D → Option (List D)
  | .ref n => lstAt s n
  | .tup ds => some ds
  | .flst ds => some ds
  | _ => none

/-! ### operations -/
def new (o : O) (s : S) : R D := .ok (.ref s.length) (s ++ [o])
def addD : D → D → S → R D
  | .int i, .int j, s => .ok (.int (i + j)) s
  | .str x, .str y, s => if x.length + y.length ≤ sizeLine then .ok (.str (x ++ y)) s else .bad
  | .ref m, .ref n, s => match s[m]?, s[n]? with
    | some (.lst a), some (.lst b) => if a.length + b.length ≤ sizeLine then new (.lst (a ++ b)) s else .bad
    | _, _ => .bad
  | .tup a, .tup b, s => if a.length + b.length ≤ sizeLine then .ok (.tup (a ++ b)) s else .bad
  | _, _, _ => .bad
def binD : Bop → D → D → S → R D
  | .add, x, y, s => addD x y s
  | .sub, .int i, .int j, s => .ok (.int (i - j)) s
  | .mul, .int i, .int j, s => if (-(2 ^ 64) < i ∧ i < 2 ^ 64) ∨ (-(2 ^ 64) < j ∧ j < 2 ^ 64) then .ok (.int (i * j)) s else .bad
  | .fdiv, .int i, .int j, s => if 0 < j ∧ j.natAbs.log2 < 9000 then .ok (.int (i / j)) s else .bad
  | .mod, .int i, .int j, s => if 0 < j then .ok (.int (i % j)) s else .bad
  | .pow, .int i, .int j, s => if 0 ≤ j ∧ j ≤ 1000000 ∧ i.natAbs < 2 ^ 64 then .ok (.int (i ^ j.toNat)) s else .bad
  | _, _, _, _ => .bad
def negD : D → S → R D
  | .int i, s => .ok (.int (-i)) s
  | _, _ => .bad
def inStr (x y : Str) : Bool := match x.cps.toList with
  | [c] => decide (c ∈ y.cps.toList)
  | _ => !(Builtin.Str.occurrences y x 0 y.length 1).isEmpty
def flatD : D → Bool
  | .non => true
  | .bl _ => true
  | .int _ => true
  | .str _ => true
  | _ => false
def eqF : D → D → Bool
  | .non, .non => true
  | .bl a, .bl b => a == b
  | .bl a, .int b => (if a then 1 else 0) == b
  | .int a, .bl b => a == (if b then 1 else 0)
  | .int a, .int b => a == b
  | .str a, .str b => a == b
  | _, _ => false
def inD : D → D → S → R Bool
  | .str x, .str y, s => .ok (inStr x y) s
  | x, .ref n, s => match s[n]? with
   | some (.dct kvs) => (match keyD x with
    | some k => .ok (getK kvs k).isSome s
    | none => .bad)
   | _ => match toP 60 s x, toP 60 s (.ref n) with
    | some d, some (.list ds) => if SeqAt.shaped d = true ∧ SeqAt.shaped (.list ds) = true then .ok (ds.any fun z => PyData.eqv z d) s else .bad
    | _, _ => .bad
  | x, .tup ds, s => if flatD x = true ∧ ds.all flatD = true then .ok (ds.any fun z => eqF z x) s else .bad
  | _, _, _ => .bad
def eqP (x y : D) (s : S) : R Bool := match toP 60 s x, toP 60 s y with
  | some d, some e => if SeqAt.shaped d = true ∧ SeqAt.shaped e = true then .ok (PyData.eqv d e) s else .bad
  | _, _ => .bad
/-- the items of one dict, looked up in the other -/
def eqHits (l : List (Key × D)) (s : S) : List (Key × D) → R Bool
  | [] => .ok true s
  | (k, v) :: r => match getK l k with
    | none => .ok false s
    | some u => (eqP v u s).bind fun a _ => (eqHits l s r).bind fun b _ => .ok (a && b) s
def eqK (ks ls : List (Key × D)) (s : S) : R Bool := if ks.length = ls.length then eqHits ls s ks else .ok false s
def eqD : D → D → S → R Bool
  | .ref m, .ref n, s => (match s[m]?, s[n]? with
    | some (.dct ks), some (.dct ls) => eqK ks ls s
    | _, _ => eqP (.ref m) (.ref n) s)
  | x, y, s => eqP x y s
def ltD : D → D → S → R Bool
  | .int i, .int j, s => .ok (decide (i < j)) s
  | .str i, .str j, s => .ok (decide (i.cps.toList < j.cps.toList)) s
  | _, _, _ => .bad
def leD : D → D → S → R Bool
  | .int i, .int j, s => .ok (decide (i ≤ j)) s
  | _, _, _ => .bad
def D.isNon : D → Bool
  | .non => true
  | _ => false
def cmpD : Cop → D → D → S → R Bool
  | .lt, x, y, s => ltD x y s
  | .le, x, y, s => leD x y s
  | .gt, .int i, .int j, s => .ok (decide (j < i)) s
  | .ge, .int i, .int j, s => .ok (decide (j ≤ i)) s
  | .eq, x, y, s => eqD x y s
  | .ne, x, y, s => (eqD x y s).bind fun b s => .ok (!b) s
  | .isn, x, .non, s => .ok x.isNon s
  | .notn, x, .non, s => .ok (!x.isNon) s
  | .inn, x, y, s => inD x y s
  | .nin, x, y, s => (inD x y s).bind fun b s => .ok (!b) s
  | _, _, _, _ => .bad
def truD : D → S → R Bool
  | .non, s => .ok false s
  | .bl b, s => .ok b s
  | .int i, s => .ok (i != 0) s
  | .str x, s => if x.length ≤ sizeLine then .ok ((x.length : Int) != 0) s else .bad
  | .tup ds, s => .ok (!ds.isEmpty) s
  | .flst ds, s => .ok (!ds.isEmpty) s
  | .ref n, s => (match lstAt s n with
    | some ds => .ok (!ds.isEmpty) s
    | none => .bad)
def ixS (x : D) (i : Int) (s : S) : R D := match (seqOf s x).bind fun ds => atI ds i with
    | some d => .ok d s
    | none => .bad
def ixD : D → D → S → R D
  | .str x, .int i, s => if x.length ≤ sizeLine then (match atI x.cps.toList i with
    | some c => .ok (.str ⟨#[c]⟩) s
    | none => .bad) else .bad
  | .ref n, y, s => (match dctAt s n with
    | some kvs => (match (keyD y).bind (getK kvs) with
      | some d => .ok d s
      | none => .bad)
    | none => (match y with
      | .int i => ixS (.ref n) i s
      | _ => .bad))
  | x, .int i, s => ixS x i s
  | _, _, _ => .bad
def cutL {α : Type} (xs : List α) (lo hi : Option Int) : List α := (xs.drop (HT.sIx xs.length 0 lo)).take (HT.sIx xs.length xs.length hi - HT.sIx xs.length 0 lo)
def slD : D → Option Int → Option Int → S → R D
  | .str x, lo, hi, s => if x.length ≤ sizeLine then .ok (.str (cutS x lo hi)) s else .bad
  | .tup ds, lo, hi, s => .ok (.tup (cutL ds lo hi)) s
  | .ref n, lo, hi, s => match lstAt s n with
    | some ds => new (.lst (cutL ds lo hi)) s
    | none => .bad
  | _, _, _, _ => .bad
def strsOf : List D → Option (List Str)
  | [] => some []
  | .str x :: ds => (strsOf ds).map (x :: ·)
  | _ => none
def leT (a b : Str) : Bool := decide (a.cps.toList ≤ b.cps.toList)
/-- texts, ascending -/
def sortT (xs : List Str) : List Str := xs.mergeSort leT
def dctOf (s : S) : D → Option (List (Key × D))
  | .ref n => dctAt s n
  | _ => none
def bltD : Bf → List D → S → R D
  | .len, [.str x], s => if x.length ≤ sizeLine then .ok (.int x.length) s else .bad
  | .len, [x], s => match dctOf s x with
    | some kvs => .ok (.int kvs.length) s
    | none => match seqOf s x with
      | some ds => .ok (.int ds.length) s
      | none => .bad
  | .abs, [.int i], s => .ok (.int (if i < 0 then -i else i)) s
  | .int, [.int i], s => .ok (.int i) s
  | .int, [.bl b], s => .ok (.int (if b then 1 else 0)) s
  | .list, [x], s => match dctOf s x with
    | some kvs => new (.lst (kvs.map fun p => dKey p.1)) s
    | none => match seqOf s x with
      | some ds => new (.lst ds) s
      | none => .bad
  | .dict, [x], s => match dctOf s x with
    | some kvs => new (.dct kvs) s
    | none => .bad
  | .sorted, [.ref n], s => match (lstAt s n).bind strsOf with
    | some xs => if xs.length < 64 then new (.lst ((sortT xs).map .str)) s else .bad
    | none => .bad
  | .min, [.int i, .int j], s => .ok (.int (if j < i then j else i)) s
  | .max, [.int i, .int j], s => .ok (.int (if j > i then j else i)) s
  | .tuple, [x], s => match seqOf s x with
    | some ds => .ok (.tup ds) s
    | none => .bad
  | _, _, _ => .bad
def mtD : Mi → D → List D → S → R D
  | .lappend, .ref n, [d], s => match s[n]? with
    | some (.lst ds) => if ds.length < sizeLine then .ok .non (s.set n (.lst (ds ++ [d]))) else .bad
    | _ => .bad
  | .sjoin, .str a, [x], s => match (seqOf s x).bind strsOf with
    | some ys => if (ys.map (·.length)).sum + ys.length * a.length ≤ 16777216 then .ok (.str (Txt.join a ys)) s else .bad
    | none => .bad
  | .lclear, .ref n, [], s => match s[n]? with
    | some (.lst _) => .ok .non (s.set n (.lst []))
    | _ => .bad
  | .dclear, .ref n, [], s => match s[n]? with
    | some (.dct _) => .ok .non (s.set n (.dct []))
    | _ => .bad
  | .dget, .ref n, [y], s => match s[n]? with
    | some (.dct kvs) => (match keyD y with
      | some k => .ok ((getK kvs k).getD .non) s
      | none => .bad)
    | _ => .bad
  | .dget, .ref n, [y, z], s => match s[n]? with
    | some (.dct kvs) => (match keyD y with
      | some k => .ok ((getK kvs k).getD z) s
      | none => .bad)
    | _ => .bad
  | .linsert, .ref n, [.int i, d], s => match s[n]? with
    | some (.lst ds) => if ds.length < sizeLine ∧ 0 ≤ i ∧ i < 2 ^ 63 then .ok .non (s.set n (.lst (ds.take i.toNat ++ [d] ++ ds.drop i.toNat))) else .bad
    | _ => .bad
  | .lpop, .ref n, [], s => match s[n]? with
    | some (.lst ds) => (match ds[ds.length - 1]? with
      | some d => .ok d (s.set n (.lst ds.dropLast))
      | none => .bad)
    | _ => .bad
  | .dpop, .ref n, [y], s => (match s[n]? with
    | some (.dct kvs) => (match keyD y with
      | some k => (match getK kvs k with
        | some d => .ok d (s.set n (.dct (dropG kvs k)))
        | none => .bad)
      | none => .bad)
    | _ => .bad)
  | .lextend, .ref n, [.ref m], s => match s[n]?, s[m]? with
    | some (.lst ds), some (.lst es) => if ds.length + es.length ≤ sizeLine then .ok .non (s.set n (.lst (ds ++ es))) else .bad
    | _, _ => .bad
  | _, _, _, _ => .bad
/-- which built-in method is meant: asked ahead of the arguments -/
def mSelL : Mf → Option Mi
  | .append => some .lappend | .clear => some .lclear | .insert => some .linsert | .pop => some .lpop | .extend => some .lextend | _ => none
def mSelD : Mf → Option Mi
  | .clear => some .dclear | .get => some .dget | .pop => some .dpop | _ => none
def mSelS : Mf → Option Mi
  | .join => some .sjoin | _ => none
def mSel (m : Mf) : D → S → Option Mi
  | .ref n, s => (match s[n]? with
    | some (.lst _) => mSelL m
    | some (.dct _) => mSelD m
    | _ => none)
  | .str _, _ => mSelS m
  | _, _ => none
def isiD : Ty → D → S → R Bool
  | t, .non, s => .ok false s
  | .int, .bl _, s => .ok true s
  | .bool, .bl _, s => .ok true s
  | _, .bl _, s => .ok false s
  | .int, .int _, s => .ok true s
  | _, .int _, s => .ok false s
  | .str, .str _, s => .ok true s
  | _, .str _, s => .ok false s
  | .tuple, .tup _, s => .ok true s
  | _, .tup _, s => .ok false s
  | t, .flst _, s => .ok t.isList s
  | t, .ref n, s => (match s[n]? with
    | some (.lst _) => .ok t.isList s
    | some (.dct _) => .ok t.isDict s
    | _ => .bad)
/-- o[i] = v -/
def setD : D → D → D → S → Option S
  | .ref n, y, v, s => (match s[n]? with
    | some (.lst ds) => (match y with
      | .int i => (match ixN ds.length i with
        | some j => some (s.set n (.lst (ds.set j v)))
        | none => none)
      | _ => none)
    | some (.dct kvs) => (match keyD y with
      | some k => if kvs.length < sizeLine then some (s.set n (.dct (setK kvs k v))) else none
      | none => none)
    | _ => none)
  | _, _, _, _ => none
/-! ### targets and sources -/
def setAll : List Nat → List D → Fr → Fr
  | i :: is, d :: ds, τ => setAll is ds (τ.set i (some d))
  | _, _, τ => τ
def asgV : Tv → D → S → Fr → Option Fr
  | .var i, d, _, τ => some (τ.set i (some d))
  | .tup is, .tup ds, _, τ => if is.length = ds.length then some (setAll is ds τ) else none
  | .tup is, .ref n, s, τ => (match lstAt s n with
    | some ds => if is.length = ds.length then some (setAll is ds τ) else none
    | none => none)
  | _, _, _, _ => none
def wipeF (τ : Fr) : List Nat → Fr
  | [] => τ
  | v :: vs => (wipeF τ vs).set v none
inductive Src where
  | lst (n : Nat) (ds : List D) | vals (ds : List D) | dk (n : Nat) (kvs : List (Key × D)) | dki (n : Nat) (kvs : List (Key × D))
def Src.items : Src → List D
  | .lst _ ds => ds
  | .vals ds => ds
  | .dk _ kvs => kvs.map fun p => dKey p.1
  | .dki _ kvs => kvs.map fun p => .tup [dKey p.1, p.2]
def Src.ok : Src → S → Prop
  | .lst n ds, s => lstAt s n = some ds
  | .vals _, _ => True
  | .dk n kvs, s => s[n]? = some (.frd kvs)
  | .dki n kvs, s => s[n]? = some (.frd kvs)
def chars (x : Str) : List D := x.cps.toList.map fun c => .str ⟨#[c]⟩
def rngD (lo : Int) (n : Nat) : List D := (List.range n).map fun k => .int (lo + (k : Nat))
def srcOf : Ik → List D → S → Option Src
  | .seq, [.ref n], s => (match lstAt s n with
    | some ds => some (.lst n ds)
    | none => (match s[n]? with
      | some (.frd kvs) => some (.dk n kvs)
      | _ => none))
  | .items, [.ref n], s => (match s[n]? with
    | some (.frd kvs) => some (.dki n kvs)
    | _ => none)
  | .seq, [.tup ds], _ => some (.vals ds)
  | .seq, [.flst ds], _ => some (.vals ds)
  | .seq, [.str x], _ => some (.vals (chars x))
  | .rng1, [.int j], _ => if -(2 ^ 62) ≤ j ∧ j < 2 ^ 62 then some (.vals (rngD 0 j.toNat)) else none
  | .rng2, [.int i, .int j], _ => if -(2 ^ 62) ≤ i ∧ i < 2 ^ 62 ∧ -(2 ^ 62) ≤ j ∧ j < 2 ^ 62 then some (.vals (rngD i (j - i).toNat)) else none
  | _, _, _ => none

/-! ### turns -/
open Classical in
noncomputable def lcS (ok : S → Prop) (g : D → S → R (Option D)) : List D → S → R (List D)
  | [], s => if ok s then .ok [] s else .bad
  | d :: ds, s => if ok s then (g d s).bind fun od s => (lcS ok g ds s).bind fun r s => .ok (match od with | some y => y :: r | none => r) s else .bad
open Classical in
noncomputable def dcS (ok : S → Prop) (g : D → S → R (Key × D)) : List D → S → List (Key × D) → R (List (Key × D))
  | [], s, acc => if ok s then .ok acc s else .bad
  | d :: ds, s, acc => if ok s then (g d s).bind fun p s => dcS ok g ds s (setK acc p.1 p.2) else .bad
open Classical in
noncomputable def forS (ok : S → Prop) (g : D → Fr → S → SR) : List D → Fr → S → SR
  | [], τ, s => if ok s then .nx τ s else .bad
  | d :: ds, τ, s => if ok s then (match g d τ s with
      | .nx τ s => forS ok g ds τ s
      | .ct τ s => forS ok g ds τ s
      | .bk τ s => .nx τ s
      | .rt d s => .rt d s
      | .exc τ c fs s => .exc τ c fs s
      | .bad => .bad) else .bad
def whS (c : Fr → S → R Bool) (b : Fr → S → SR) : Nat → Fr → S → SR
  | 0, _, _ => .bad
  | n + 1, τ, s => (c τ s).toS τ fun k s => if k = true then (match b τ s with
      | .nx τ s => whS c b n τ s
      | .ct τ s => whS c b n τ s
      | .bk τ s => .nx τ s
      | .rt d s => .rt d s
      | .exc τ c fs s => .exc τ c fs s
      | .bad => .bad) else .nx τ s
/-- turns that a while may take -/
def whTop : Nat := 1000000000

/-! ### the evaluation -/
/-- list(range(j)) -/
def lrgD : D → S → R D
  | .int j, s => if -(2 ^ 62) ≤ j ∧ j ≤ 16777216 then new (.lst (rngD 0 j.toNat)) s else .bad
  | _, _ => .bad
/-- list(reversed(x)) -/
def lrvD : D → S → R D
  | .ref n, s => (match lstAt s n with
    | some ds => new (.lst ds.reverse) s
    | none => .bad)
  | _, _ => .bad
/-- an own class; an own class of errors -/
structure Cl where
  init : Option Nat
  fields : List Str
  mths : List (Str × Nat)
  props : List (Str × Nat)
structure Ec where
  fields : List Str
  sups : List Str
structure CL where
  call : Nat → List D → S → R D
  glob : Nat → Option D
  cls : Str → Option Cl
  ecl : Str → Option Ec
  exn : Option (Option Nat × Str × List (Str × D))
/-- a new instance, its __init__ being f -/
def asNew (n : Nat) : D → S → R D
  | .non, s => .ok (.ref n) s
  | _, _ => .bad
def mkD (cl : CL) (c : Str) (f : Nat) (ds : List D) (s : S) : R D := (cl.call f (.ref s.length :: ds) (s ++ [.ins c []])).bind (asNew s.length)
def initF (cl : CL) (c : Str) : Option Nat := (cl.cls c).bind (·.init)
def mcF (cl : CL) (m : Str) : D → S → Option Nat
  | .ref n, s => (insAt s n).bind fun p => if (p.2.lookup m).isNone = true then (cl.cls p.1).bind fun k => k.mths.lookup m else none
  | _, _ => none
def R.calm {α : Type} : R α → R α
  | .ok a s => .ok a s
  | _ => .bad
@[simp] theorem R.calm_ok {α : Type} (a : α) (s : S) : (R.ok a s).calm = .ok a s := rfl
@[simp] theorem R.calm_bad {α : Type} : (R.bad : R α).calm = .bad := rfl
@[simp] theorem R.calm_exc {α : Type} (c fs) (s : S) : (R.exc c fs s : R α).calm = .bad := rfl
def fldD (cl : CL) (f : Str) : D → S → R D
  | .ref n, s => (match insAt s n with
    | some (c, fs) => (match cl.cls c with
      | some k => (match k.props.lookup f with
        | some g => (cl.call g [.ref n] s).calm
        | none => if k.fields.contains f = true then (match fs.lookup f with
          | some d => .ok d s
          | none => .bad) else .bad)
      | none => .bad)
    | none => .bad)
  | _, _ => .bad
def iscD (cl : CL) (c : Str) : D → S → R Bool
  | .ref n, s => (match s[n]? with
    | some (.ins x _) => if (cl.cls x).isSome = true ∧ (cl.cls c).isSome = true then .ok (decide (x = c)) s else .bad
    | some (.frd _) => .bad
    | some _ => if (cl.cls c).isSome = true then .ok false s else .bad
    | none => .bad)
  | _, s => if (cl.cls c).isSome = true then .ok false s else .bad
/-- x == y of two instances with an own __eq__ -/
def oeqD (cl : CL) : D → D → S → R Bool
  | .ref m, .ref n, s => (match insAt s m, insAt s n with
    | some (c, _), some (c2, _) => if c = c2 then (match (cl.cls c).bind fun k => k.mths.lookup ("__eq__" : Str) with
      | some g => ((cl.call g [.ref m, .ref n] s).calm).bind fun v s => (match v with
        | .bl b => .ok b s
        | _ => .bad)
      | none => .bad) else .bad
    | _, _ => .bad)
  | _, _, _ => .bad
/-- o.f = v -/
def setA (cl : CL) : D → Str → D → S → Option S
  | .ref n, f, v, s => (match s[n]? with
    | some (.ins c fs) => (match cl.cls c with
      | some k => if k.fields.contains f = true ∧ fs.length < 1000 then some (s.set n (.ins c (setF f v fs))) else none
      | none => none)
    | _ => none)
  | _, _, _, _ => none
def efD (cl : CL) (i : Nat) (f : Str) (τ : Fr) (s : S) : R D := match cl.exn with
  | some (j, c, fs) => if j = some i ∧ i < τ.length then (match cl.ecl c with
    | some e => if e.fields.contains f = true then (match fs.lookup f with
      | some d => .ok d s
      | none => .bad) else .bad
    | none => .bad) else .bad
  | none => .bad
def eiD (cl : CL) (i : Nat) (c : Str) (τ : Fr) (s : S) : R D := match cl.exn with
  | some (j, x, _) => if (j = some i ∧ i < τ.length) ∧ ((cl.ecl c).isSome = true ∨ c = "ValueError" ∨ c = "CappedError") then (match cl.ecl x with
    | some e => .ok (.bl (e.sups.contains c)) s
    | none => .bad) else .bad
  | none => .bad
/-- the dict that is walked, and so locked -/
def lkOf : R D → S → Option (Nat × List (Key × D))
  | .ok (.ref d) _, s => (dctAt s d).map fun kvs => (d, kvs)
  | _, _ => none
def unlk (d : Nat) (s : S) (f : S → SR) : SR := match s[d]? with
  | some (.frd kvs) => f (s.set d (.dct kvs))
  | _ => .bad
def lkS (d : Nat) : SR → SR
  | .nx τ s => unlk d s fun s => .nx τ s
  | .rt v s => unlk d s fun s => .rt v s
  | .bk τ s => unlk d s fun s => .bk τ s
  | .ct τ s => unlk d s fun s => .ct τ s
  | _ => .bad
abbrev VT := (Fr → S → R D) × (Fr → S → R Bool)
def plainT (v : Fr → S → R D) : VT := (v, fun τ s => (v τ s).bind truD)
def asB (c : Fr → S → R Bool) : VT := (fun τ s => (c τ s).bind fun b s => .ok (.bl b) s, c)
def partOf : D → Option (Option Int)
  | .int i => some (some i)
  | _ => none
def Ex.isNop : Ex → Bool
  | .nop => true
  | _ => false
mutual
noncomputable def ev (cl : CL) : Ex → VT
  | .nop => plainT fun _ _ => .bad
  | .var i => plainT fun τ s => match τ[i]? with
    | some (some d) => .ok d s
    | _ => .bad
  | .cst c => plainT fun _ s => .ok c.d s
  | .glob i => plainT fun _ s => match cl.glob i with
    | some d => .ok d s
    | none => .bad
  | .bin o a b => plainT fun τ s => ((ev cl a).1 τ s).bind fun x s => ((ev cl b).1 τ s).bind fun y s => binD o x y s
  | .neg a => plainT fun τ s => ((ev cl a).1 τ s).bind negD
  | .not a => (fun τ s => ((ev cl a).1 τ s).bind fun x s => (match x with | .bl c => .ok (.bl (!c)) s | _ => .bad), fun τ s => ((ev cl a).2 τ s).bind fun c s => .ok (!c) s)
  | .and a b => (fun τ s => ((ev cl a).1 τ s).bind fun x s => (match x with | .bl true => (ev cl b).1 τ s | .bl false => .ok (.bl false) s | _ => .bad), fun τ s => ((ev cl a).2 τ s).bind fun c s => if c = true then (ev cl b).2 τ s else .ok false s)
  | .or a b => (fun τ s => ((ev cl a).1 τ s).bind fun x s => (match x with | .bl true => .ok (.bl true) s | .bl false => (ev cl b).1 τ s | _ => .bad), fun τ s => ((ev cl a).2 τ s).bind fun c s => if c = true then .ok true s else (ev cl b).2 τ s)
  | .cmp o a b => asB fun τ s => ((ev cl a).1 τ s).bind fun x s => ((ev cl b).1 τ s).bind fun y s => cmpD o x y s
  | .cmp2 o o' a b c => asB fun τ s => ((ev cl a).1 τ s).bind fun x s => ((ev cl b).1 τ s).bind fun y s => (cmpD o x y s).bind fun k s => if k = true then ((ev cl c).1 τ s).bind fun z s => cmpD o' y z s else .ok false s
  | .ife c a b => (fun τ s => ((ev cl c).2 τ s).bind fun k s => if k = true then (ev cl a).1 τ s else (ev cl b).1 τ s, fun _ _ => .bad)
  | .tup es => plainT fun τ s => (evs cl es τ s).bind fun ds s => .ok (.tup ds) s
  | .lst es => plainT fun τ s => (evs cl es τ s).bind fun ds s => new (.lst ds) s
  | .ix a i => plainT fun τ s => ((ev cl a).1 τ s).bind fun x s => ((ev cl i).1 τ s).bind fun y s => ixD x y s
  | .sl a lo hi => plainT fun τ s => ((ev cl a).1 τ s).bind fun x s => (evPart (ev cl lo).1 lo.isNop τ s).bind fun l s => (evPart (ev cl hi).1 hi.isNop τ s).bind fun h s => slD x l h s
  | .call f es => plainT fun τ s => (evs cl es τ s).bind fun ds s => cl.call f ds s
  | .blt b es => plainT fun τ s => (evs cl es τ s).bind fun ds s => bltD b ds s
  | .meth m o es => plainT fun τ s => ((ev cl o).1 τ s).bind fun x s => match mSel m x s with
    | some i => (evs cl es τ s).bind fun ds s => mtD i x ds s
    | none => .bad
  | .lrg a => plainT fun τ s => ((ev cl a).1 τ s).bind lrgD
  | .lrv a => plainT fun τ s => ((ev cl a).1 τ s).bind lrvD
  | .oeq a b => asB fun τ s => ((ev cl a).1 τ s).bind fun x s => ((ev cl b).1 τ s).bind fun y s => oeqD cl x y s
  | .dct => plainT fun _ s => new (.dct []) s
  | .fld a f => plainT fun τ s => ((ev cl a).1 τ s).bind fun x s => fldD cl f x s
  | .mc m o es => plainT fun τ s => ((ev cl o).1 τ s).bind fun x s => match mcF cl m x s with
    | some g => (evs cl es τ s).bind fun ds s => cl.call g (x :: ds) s
    | none => .bad
  | .mk c es => plainT fun τ s => match initF cl c with
    | some f => (evs cl es τ s).bind fun ds s => mkD cl c f ds s
    | none => .bad
  | .isc a c => plainT fun τ s => if (cl.cls c).isSome = true then ((ev cl a).1 τ s).bind fun x s => (iscD cl c x s).bind fun b s => .ok (.bl b) s else .bad
  | .efld i f => plainT fun τ s => efD cl i f τ s
  | .eis i c => plainT fun τ s => eiD cl i c τ s
  | .dc kx vx t k its own => plainT fun τ s => (evs cl its τ s).bind fun ds s => match srcOf k ds s with
    | none => .bad
    | some src => if src.items.length < sizeLine then (dcS src.ok (fun d s => match asgV t d s (wipeF τ (own.map (·.2))) with
        | none => .bad
        | some τ' => (((ev cl kx).1 τ' s).calm).bind fun y s => (((ev cl vx).1 τ' s).calm).bind fun z s => match keyD y with
          | some k => .ok (k, z) s
          | none => .bad) src.items s []).bind fun r s => new (.dct r) s else .bad
  | .isi a t => plainT fun τ s => ((ev cl a).1 τ s).bind fun x s => (isiD t x s).bind fun b s => .ok (.bl b) s
  | .lc elt t k its cond own => plainT fun τ s => (evs cl its τ s).bind fun ds s => match srcOf k ds s with
    | none => .bad
    | some src => if src.items.length < sizeLine then (lcS src.ok (fun d s => match asgV t d s (wipeF τ (own.map (·.2))) with
        | none => .bad
        | some τ' => ((if cond.isNop = true then .ok true s else ((ev cl cond).2 τ' s).calm : R Bool)).bind fun c s => if c = true then (((ev cl elt).1 τ' s).calm).bind fun y s => .ok (some y) s else .ok none s) src.items s).bind fun r s => new (.lst r) s else .bad
noncomputable def evs (cl : CL) : Exs → Fr → S → R (List D)
  | .nil, _, s => .ok [] s
  | .cons e es, τ, s => ((ev cl e).1 τ s).bind fun d s => (evs cl es τ s).bind fun ds s => .ok (d :: ds) s
/-- a part of a slice -/
noncomputable def evPart (v : Fr → S → R D) (nop : Bool) (τ : Fr) (s : S) : R (Option Int) :=
  if nop = true then .ok none s else (v τ s).bind fun d s => match d with
    | .int i => .ok (some i) s
    | _ => .bad
end
noncomputable def evE (cl : CL) (e : Ex) : Fr → S → R D := (ev cl e).1
noncomputable def evT (cl : CL) (e : Ex) : Fr → S → R Bool := (ev cl e).2

noncomputable def store (cl : CL) : Tg → D → Fr → S → SR
  | .loc t, d, τ, s => match asgV t d s τ with
    | some τ' => .nx τ' s
    | none => .bad
  | .sub o i, d, τ, s => (evE cl o τ s).toS τ fun x s => (evE cl i τ s).toS τ fun y s => match setD x y d s with
    | some s' => .nx τ s'
    | none => .bad
  | .fld o f, d, τ, s => (evE cl o τ s).toS τ fun x s => match setA cl x f d s with
    | some s' => .nx τ s'
    | none => .bad
def hsOk (cl : CL) : Hs → Bool
  | .nil => true
  | .cons x _ _ r => (cl.ecl x).isSome && hsOk cl r
def clr (as : Option Nat) (τ : Fr) : Fr := match as with
  | some i => τ.set i none
  | none => τ
/-- the end of an except suite -/
def SR.off (as : Option Nat) : SR → SR
  | .nx τ s => .nx (clr as τ) s
  | .rt d s => .rt d s
  | .bk τ s => .bk (clr as τ) s
  | .ct τ s => .ct (clr as τ) s
  | _ => .bad
mutual
noncomputable def ex : CL → Cm → Fr → S → SR
  | cl, .asg t e, τ, s => (evE cl e τ s).toS τ fun d s => store cl t d τ s
  | cl, .ite c a b, τ, s => (evT cl c τ s).toS τ fun k s => if k = true then exs cl a τ s else exs cl b τ s
  | cl, .for_ t k its body, τ, s => (evs cl its τ s).toS τ fun ds s => match srcOf k ds s with
    | none => .bad
    | some src => forS src.ok (fun d τ s => match asgV t d s τ with
        | none => .bad
        | some τ' => exs cl body τ' s) src.items τ s
  | cl, .whl c body, τ, s => whS (evT cl c) (exs cl body) whTop τ s
  | cl, .ret e, τ, s => (evE cl e τ s).toS τ fun d s => .rt d s
  | cl, .retn, _, s => .rt .non s
  | cl, .expr e, τ, s => (evE cl e τ s).toS τ fun _ s => .nx τ s
  | cl, .pass, τ, s => .nx τ s
  | cl, .brk, τ, s => .bk τ s
  | cl, .cont, τ, s => .ct τ s
  | cl, .rse c es, τ, s => match cl.ecl c with
    | some e => (evs cl es τ s).toS τ fun ds s => if ds.length = e.fields.length then .exc τ c (e.fields.zip ds).reverse s else .bad
    | none => .bad
  | cl, .try_ body hs, τ, s => if hsOk cl hs = true then (match exs cl body τ s with
    | .exc τ' c fs s' => exh cl hs c fs τ' s'
    | r => r) else .bad
  | cl, .lk e c, τ, s => match lkOf (evE cl e τ s) s with
    | some p => lkS p.1 (ex cl c τ (s.set p.1 (.frd p.2)))
    | none => .bad
noncomputable def exs : CL → Cms → Fr → S → SR
  | cl, .nil, τ, s => .nx τ s
  | cl, .cons c cs, τ, s => (ex cl c τ s).bind fun τ s => exs cl cs τ s
noncomputable def exh : CL → Hs → Str → List (Str × D) → Fr → S → SR
  | cl, .nil, c, fs, τ, s => .exc τ c fs s
  | cl, .cons x as suite r, c, fs, τ, s => match cl.ecl c with
    | none => .bad
    | some e => if e.sups.contains x = true then (exs { cl with exn := some (as, c, fs) } suite (clr as τ) s).off as
      else exh cl r c fs τ s
end

/-! ### functions -/
structure Fn where
  np : Nat
  nl : Nat
  body : Cms
structure Ga where
  fns : List (Nat × Fn)
  consts : List (Nat × D)
  cls : List (Str × Cl)
  ecl : List (Str × Ec)
noncomputable def runFn (cl : CL) (fn : Fn) (ds : List D) (s : S) : R D :=
  if ds.length = fn.np then (match exs cl fn.body (ds.map some ++ List.replicate (fn.nl - fn.np) none) s with
    | .nx _ s => .ok .non s
    | .rt d s => .ok d s
    | .exc _ c fs s => .exc c fs s
    | _ => .bad) else .bad
noncomputable def callF (Γ : Ga) : Nat → Nat → List D → S → R D
  | 0, _, _, _ => .bad
  | k + 1, f, ds, s => match Γ.fns.lookup f with
    | some fn => runFn ⟨callF Γ k, fun i => Γ.consts.lookup i, fun c => Γ.cls.lookup c, fun c => Γ.ecl.lookup c, none⟩ fn ds s
    | none => .bad
noncomputable def clF (Γ : Ga) (k : Nat) : CL := ⟨callF Γ k, fun i => Γ.consts.lookup i, fun c => Γ.cls.lookup c, fun c => Γ.ecl.lookup c, none⟩
end G

set_option Elab.async false
set_option linter.all false
set_option maxRecDepth 100000
set_option autoImplicit false
set_option maxHeartbeats 1000000
/-! G3: the operations on plain values are those of the machine. -/
namespace G
open PySem PySem.Spec PyProof.Rows L2

def W0 : WX := fun _ _ _ _ => True
/-- an operation that raises nothing -/
abbrev PostP (U : Su) (ι : List Addr) (H : Hp) (r : R D) (Q : V → Hp → Prop) : Prop := Post U (RD U) W0 [] ι H r Q
section
variable {U : Su} {ι ι' : List Addr} {H H' : Hp} {s : S} {Q : V → Hp → Prop} {d d' : D} {v : V} {ds : List D} {vs : List V} {p a : Addr} {n : Nat}
theorem PostP.val (h : PostP U ι H (.ok d s) Q) (hs : RelS U ι s H) (r : Rep U.K ι H d v) : Q v H := h ι H v (Go.refl _ _) hs r
theorem PostP.mk {o : O} {u : HO} (h : PostP U ι H (new o s) Q) (hs : RelS U ι s H) (hp : H p = none) (ho : ObR U (ι ++ [p]) (upd H p u) p o) : Q (.ref p) (upd H p u) := by
  refine h (ι ++ [p]) _ (.ref p) (Go.new (same_new hp) hp) (hs.new hp (same_new hp) ho) ?_
  show Rep _ _ _ (.ref s.length) _
  simp only [Rep]
  refine ⟨p, rfl, ?_⟩
  rw [← hs.len]
  simp
theorem PostP.tup (h : PostP U ι H (.ok (.tup ds) s) Q) (hs : RelS U ι s H) (hp : H p = none) (r : Reps U.K ι H ds vs) : Q (.ref p) (upd H p (.tup vs)) := by
  refine h ι _ (.ref p) (Go.same (same_new hp)) (hs.tup hp) ?_
  show Rep _ _ _ (.tup ds) _
  simp only [Rep]
  exact ⟨p, vs, rfl, .inl upd_same, r.mono (Ext.refl _) (Same.kept (same_new hp))⟩
theorem ObR.lst (hp : H p = none) (r : Reps U.K ι H ds vs) : ObR U (ι ++ [p]) (upd H p (.lst vs)) p (.lst ds) :=
  ⟨vs, upd_same, r.mono (Ext.one _ _) (Same.kept (same_new hp))⟩
/-- a list that stands in the store -/
theorem lst_sq (hs : RelS U ι s H) (e : lstAt s n = some ds) (i : ι[n]? = some a) : ∃ vs, SqL U.K H a vs ∧ Reps U.K ι H ds vs := by
  unfold lstAt at e
  split at e
  · rename_i xs q
    cases e
    obtain ⟨vs, h1, h2⟩ := hs.at q i
    exact ⟨vs, .inl (.inl h1), h2⟩
  · cases e
theorem seq_sq (hs : RelS U ι s H) (e : seqOf s d = some ds) (r : Rep U.K ι H d v) : ∃ a vs, v = .ref a ∧ (SqL U.K H a vs ∨ TupAt U.K H a vs) ∧ Reps U.K ι H ds vs := by
  cases d with
  | ref n =>
    simp only [Rep] at r
    obtain ⟨a, rfl, i⟩ := r
    obtain ⟨vs, h1, h2⟩ := lst_sq hs e i
    exact ⟨a, vs, rfl, .inl h1, h2⟩
  | tup es =>
    simp only [Rep] at r
    obtain ⟨a, vs, rfl, h1, h2⟩ := r
    cases (show some es = some ds from e)
    exact ⟨a, vs, rfl, .inr h1, h2⟩
  | flst es =>
    simp only [Rep] at r
    obtain ⟨a, vs, rfl, h1, h2⟩ := r
    cases (show some es = some ds from e)
    exact ⟨a, vs, rfl, .inl h1.sq, h2⟩
  | _ => exact nomatch (show none = some ds from e)
/-! ### dicts -/
theorem dct_at (hs : RelS U ι s H) {kvs : List (Key × D)} (e : s[n]? = some (.dct kvs)) (i : ι[n]? = some a) : ∃ vs, H a = some (.dK vs) ∧ RepF U.K ι H kvs vs := hs.at e i
theorem dctAt_of {kvs : List (Key × D)} (e : dctAt s n = some kvs) : s[n]? = some (.dct kvs) := by
  unfold dctAt at e
  split at e
  · rename_i xs q; cases e; exact q
  · cases e
theorem lstAt_get (e : lstAt s n = some ds) : s[n]? = some (.lst ds) := by
  unfold lstAt at e
  split at e
  · rename_i xs q; cases e; exact q
  · cases e
section
variable {κ : Type} {K : PySem.W.Frag}
theorem RepF.length : ∀ {ks : List (κ × D)} {vs : List (κ × V)}, RepF K ι H ks vs → vs.length = ks.length
  | [], _, h => by cases (show _ = [] from h); rfl
  | p :: ks, _, h => by
    obtain ⟨v, ws, rfl, _, h2⟩ := h
    simp [RepF.length h2]
theorem RepF.any (f : κ → Bool) : ∀ {ks : List (κ × D)} {vs : List (κ × V)}, RepF K ι H ks vs → (vs.any fun p => f p.1) = (ks.any fun p => f p.1)
  | [], _, h => by cases (show _ = [] from h); rfl
  | p :: ks, _, h => by
    obtain ⟨v, ws, rfl, _, h2⟩ := h
    simp [RepF.any f h2]
theorem RepF.app : ∀ {ks ls : List (κ × D)} {vs ws : List (κ × V)}, RepF K ι H ks vs → RepF K ι H ls ws → RepF K ι H (ks ++ ls) (vs ++ ws)
  | [], _, _, _, h, g => by cases (show _ = [] from h); exact g
  | p :: ks, _, _, _, h, g => by
    obtain ⟨v, us, rfl, h1, h2⟩ := h
    exact ⟨v, _, rfl, h1, RepF.app h2 g⟩
variable [DecidableEq κ]
theorem RepF.get {k : κ} : ∀ {ks : List (κ × D)} {vs : List (κ × V)}, RepF K ι H ks vs → (getK ks k = none ∧ valV vs k = none) ∨ ∃ d v, getK ks k = some d ∧ valV vs k = some v ∧ Rep K ι H d v
  | [], _, h => by cases (show _ = [] from h); exact .inl ⟨rfl, rfl⟩
  | p :: ks, _, h => by
    obtain ⟨v, ws, rfl, h1, h2⟩ := h
    by_cases e : p.1 = k
    · exact .inr ⟨p.2, v, by simp [getK, List.find?_cons, e], by simp [valV, List.find?_cons, e], h1⟩
    · have e1 : getK (p :: ks) k = getK ks k := by simp [getK, List.find?_cons, e]
      have e2 : valV ((p.1, v) :: ws) k = valV ws k := by simp [valV, List.find?_cons, e]
      rw [e1, e2]
      exact RepF.get h2
theorem RepF.map {k : κ} {d : D} {v : V} (r : Rep K ι H d v) : ∀ {ks : List (κ × D)} {vs : List (κ × V)}, RepF K ι H ks vs →
    RepF K ι H (ks.map fun p => if p.1 = k then (p.1, d) else p) (vs.map fun p => if p.1 = k then (p.1, v) else p)
  | [], _, h => by cases (show _ = [] from h); exact rfl
  | p :: ks, _, h => by
    obtain ⟨u, ws, rfl, h1, h2⟩ := h
    by_cases e : p.1 = k
    · exact ⟨v, _, by simp only [List.map_cons, e, if_true], by simp only [e, if_true]; exact r, RepF.map r h2⟩
    · exact ⟨u, _, by simp only [List.map_cons, e, if_false], by simp only [e, if_false]; exact h1, RepF.map r h2⟩
theorem RepF.put {k : κ} {d : D} {v : V} (r : Rep K ι H d v) {ks : List (κ × D)} {vs : List (κ × V)} (h : RepF K ι H ks vs) : RepF K ι H (setK ks k d) (putK vs k v) := by
  unfold setK putK
  rw [RepF.any (fun j => decide (j = k)) h]
  split
  · exact RepF.map r h
  · exact RepF.app h ⟨v, [], rfl, r, rfl⟩
end
theorem RepF.drop {κ : Type} [DecidableEq κ] {K : PySem.W.Frag} {ι : List Addr} {H : Hp} {k : κ} : ∀ {ks : List (κ × D)} {vs : List (κ × V)}, RepF K ι H ks vs → RepF K ι H (dropG ks k) (dropK vs k)
  | [], _, h => by cases (show _ = [] from h); exact rfl
  | p :: ks, _, h => by
    obtain ⟨u, ws, rfl, h1, h2⟩ := h
    by_cases e : p.1 = k
    · simp only [dropG, dropK, List.filter_cons, e, ne_eq, not_true, decide_false, Bool.false_eq_true, if_false]
      exact RepF.drop h2
    · simp only [dropG, dropK, List.filter_cons, e, ne_eq, not_false_iff, decide_true, if_true]
      exact ⟨u, _, rfl, h1, RepF.drop h2⟩
theorem rep_key {K : PySem.W.Frag} {k : Key} (h : keyD d = some k) (r : Rep K ι H d v) : v = kV k := by
  cases d <;> simp only [keyD] at h <;> first
    | (cases h; done)
    | (cases h; simp only [Rep] at r; exact r)
theorem rep_dKey {K : PySem.W.Frag} (k : Key) : Rep K ι H (dKey k) (kV k) := by cases k <;> simp [dKey, kV, Rep]
theorem reps_keys {K : PySem.W.Frag} : ∀ {ks : List (Key × D)} {vs : List (Key × V)}, RepF K ι H ks vs → Reps K ι H (ks.map fun p => dKey p.1) (vs.map fun p => kV p.1)
  | [], _, h => by cases (show _ = [] from h); exact Reps.nil
  | p :: ks, _, h => by
    obtain ⟨u, ws, rfl, h1, h2⟩ := h
    exact Reps.cons (rep_dKey _) (reps_keys h2)
mutual
theorem toP_dp (hs : RelS U ι s H) : ∀ (k : Nat) (d : D) (v : V) (p : PyData), Rep U.K ι H d v → toP k s d = some p → Dp U.K H v p
  | _, .non, v, p, r, e => by
    simp only [Rep] at r; simp only [toP, Option.some.injEq] at e; subst r; subst e; exact .non
  | _, .bl b, v, p, r, e => by
    simp only [Rep] at r; simp only [toP, Option.some.injEq] at e; subst r; subst e; exact .bl _
  | _, .int b, v, p, r, e => by
    simp only [Rep] at r; simp only [toP, Option.some.injEq] at e; subst r; subst e; exact .int _
  | _, .str b, v, p, r, e => by
    simp only [Rep] at r; simp only [toP, Option.some.injEq] at e; subst r; subst e; exact .str _
  | 0, .tup ds, v, p, r, e => by simp [toP] at e
  | 0, .ref n, v, p, r, e => by simp [toP] at e
  | 0, .flst n, v, p, r, e => by simp [toP] at e
  | k + 1, .tup ds, v, p, r, e => by
    simp only [Rep] at r
    obtain ⟨a, vs, rfl, h1, h2⟩ := r
    simp only [toP, Option.map_eq_some_iff] at e
    obtain ⟨ps, e, rfl⟩ := e
    exact .tup h1.sq (toPs_dp hs k ds vs ps h2 e)
  | k + 1, .flst ds, v, p, r, e => by
    simp only [Rep] at r
    obtain ⟨a, vs, rfl, h1, h2⟩ := r
    simp only [toP, Option.map_eq_some_iff] at e
    obtain ⟨ps, e, rfl⟩ := e
    exact .lst h1.sq (toPs_dp hs k ds vs ps h2 e)
  | k + 1, .ref n, v, p, r, e => by
    simp only [Rep] at r
    obtain ⟨a, rfl, i⟩ := r
    have key : ∃ ds ps, lstAt s n = some ds ∧ toPs k s ds = some ps ∧ p = .list ps := by
      simp only [toP] at e
      unfold lstAt
      split at e
      · rename_i ds q
        simp only [Option.map_eq_some_iff] at e
        obtain ⟨ps, e, rfl⟩ := e
        exact ⟨ds, ps, rfl, e, rfl⟩
      · cases e
    obtain ⟨ds, ps, e1, e2, rfl⟩ := key
    obtain ⟨vs, h1, h2⟩ := lst_sq hs e1 i
    exact .lst h1 (toPs_dp hs k ds vs ps h2 e2)
theorem toPs_dp (hs : RelS U ι s H) : ∀ (k : Nat) (ds : List D) (vs : List V) (ps : List PyData), Reps U.K ι H ds vs → toPs k s ds = some ps → DpAll U.K H vs ps
  | _, [], vs, ps, r, e => by
    simp only [Reps] at r; simp only [toPs, Option.some.injEq] at e; subst r; subst e; exact .nil
  | k, d :: ds, vs, ps, r, e => by
    simp only [Reps] at r
    obtain ⟨v, ws, rfl, h1, h2⟩ := r
    simp only [toPs] at e
    split at e
    · rename_i q qs e1 e2
      cases e
      exact .cons (toP_dp hs k d v q h1 e1) (toPs_dp hs k ds ws qs h2 e2)
    · cases e
end
end

/-- two values in, by the plain operation m -/
def rOp (U : Su) (m : D → D → S → R D) : R2 := fun x y H Q => ∃ ι s d e, RelS U ι s H ∧ Rep U.K ι H d x ∧ Rep U.K ι H e y ∧ PostP U ι H (m d e s) Q
def boolR (m : D → D → S → R Bool) : D → D → S → R D := fun x y s => (m x y s).bind fun b s => .ok (.bl b) s
section
variable {X : Cx} {U : Su} {ι : List Addr} {H : Hp} {s : S} {Q : V → Hp → Prop}
theorem OpR.imp {f : Value → Value → Sem Value} {r r' : R2} (h : OpR X f r) (i : ∀ x y H Q, r' x y H Q → r x y H Q) : OpR X f r' :=
  fun pins s σ H x y v u Q I rx ry q => h pins s σ H x y v u Q I rx ry (i _ _ _ _ q)
theorem CMulW.dec {i j : Int} (h : i.natAbs.log2 + j.natAbs.log2 < 1000000) : CMulW i j := h

theorem op_binD (hK : U.K = X.K) : ∀ o : Bop, OpR X (binaryOp (match o with | .add => .Add | .sub => .Sub | .mul => .Mult | .fdiv => .FloorDiv | .mod => .Mod | .pow => .Pow)) (rOp U (binD o))
  | .add => by
    have big := (op_add (X := X)).or ((op_add_str (X := X)).or ((op_cat (X := X)).or (op_catA (X := X))))
    refine OpR.imp big fun x y H Q ⟨ι, s, d, e, hs, r1, r2, hp⟩ => ?_
    have hp : PostP U ι H (addD d e s) Q := hp
    match d, e, r1, r2, hp with
    | .int i, .int j, r1, r2, hp =>
      simp only [Rep] at r1 r2
      exact .inl ⟨i, j, r1, r2, hp.val hs (by simp [Rep])⟩
    | .str i, .str j, r1, r2, hp =>
      simp only [Rep] at r1 r2
      simp only [addD] at hp
      split at hp
      · exact .inr (.inl ⟨i, j, r1, r2, by assumption, hp.val hs (by simp [Rep])⟩)
      · exact hp.elim
    | .ref m, .ref n, r1, r2, hp =>
      simp only [Rep] at r1 r2
      obtain ⟨a, rfl, i1⟩ := r1
      obtain ⟨b, rfl, i2⟩ := r2
      simp only [addD] at hp
      split at hp
      · rename_i xs ys q1 q2
        split at hp
        · obtain ⟨vs, h1, h2⟩ := hs.at q1 i1
          obtain ⟨ws, h3, h4⟩ := hs.at q2 i2
          exact .inr (.inr (.inl ⟨a, b, vs, ws, rfl, rfl, h1, h3, by rw [h2.length, h4.length]; assumption, fun p np => hp.mk hs np (ObR.lst np (h2.append h4))⟩))
        · exact hp.elim
      · exact hp.elim
    | .tup xs, .tup ys, r1, r2, hp =>
      simp only [Rep] at r1 r2
      obtain ⟨a, vs, rfl, h1, h2⟩ := r1
      obtain ⟨b, ws, rfl, h3, h4⟩ := r2
      simp only [addD] at hp
      split at hp
      · refine .inr (.inr (.inr ⟨a, b, vs, ws, rfl, rfl, hK ▸ h1.sq, hK ▸ h3.sq, by rw [h2.length, h4.length]; assumption, ?_⟩))
        have g1 := h2.length
        have g2 := h4.length
        refine ⟨fun z => ?_, fun z1 z2 => ?_, fun _ _ p np => hp.tup hs np (h2.append h4)⟩
        · have : xs = [] := List.eq_nil_of_length_eq_zero (by rw [← g1, z]; rfl)
          subst this
          exact hp.val hs (by simp only [Rep, List.nil_append]; exact ⟨b, ws, rfl, h3, h4⟩)
        · have : ys = [] := List.eq_nil_of_length_eq_zero (by rw [← g2, z2]; rfl)
          subst this
          exact hp.val hs (by simp only [Rep, List.append_nil]; exact ⟨a, vs, rfl, h1, h2⟩)
      · exact hp.elim
    | .non, _, _, _, hp => exact hp.elim
    | .bl _, _, _, _, hp => exact hp.elim
    | .flst _, _, _, _, hp => exact hp.elim
    | .int _, .flst _, _, _, hp => exact hp.elim
    | .str _, .flst _, _, _, hp => exact hp.elim
    | .tup _, .flst _, _, _, hp => exact hp.elim
    | .ref _, .flst _, _, _, hp => exact hp.elim
    | .int _, .non, _, _, hp => exact hp.elim
    | .int _, .bl _, _, _, hp => exact hp.elim
    | .int _, .str _, _, _, hp => exact hp.elim
    | .int _, .tup _, _, _, hp => exact hp.elim
    | .int _, .ref _, _, _, hp => exact hp.elim
    | .str _, .non, _, _, hp => exact hp.elim
    | .str _, .bl _, _, _, hp => exact hp.elim
    | .str _, .int _, _, _, hp => exact hp.elim
    | .str _, .tup _, _, _, hp => exact hp.elim
    | .str _, .ref _, _, _, hp => exact hp.elim
    | .tup _, .non, _, _, hp => exact hp.elim
    | .tup _, .bl _, _, _, hp => exact hp.elim
    | .tup _, .int _, _, _, hp => exact hp.elim
    | .tup _, .str _, _, _, hp => exact hp.elim
    | .tup _, .ref _, _, _, hp => exact hp.elim
    | .ref _, .non, _, _, hp => exact hp.elim
    | .ref _, .bl _, _, _, hp => exact hp.elim
    | .ref _, .int _, _, _, hp => exact hp.elim
    | .ref _, .str _, _, _, hp => exact hp.elim
    | .ref _, .tup _, _, _, hp => exact hp.elim
  | .sub => by
    refine OpR.imp (op_sub (X := X)) fun x y H Q ⟨ι, s, d, e, hs, r1, r2, hp⟩ => ?_
    cases d <;> cases e <;> first
      | exact (show False from hp).elim
      | (simp only [Rep] at r1 r2
         exact ⟨_, _, r1, r2, PostP.val hp hs (by simp [Rep])⟩)
  | .mul => by
    refine OpR.imp (op_mul (X := X)) fun x y H Q ⟨ι, s, d, e, hs, r1, r2, hp⟩ => ?_
    cases d <;> cases e <;> first
      | exact (show False from hp).elim
      | (simp only [Rep] at r1 r2
         simp only [binD] at hp
         split at hp
         · exact ⟨_, _, r1, r2, (by assumption), PostP.val hp hs (by simp [Rep])⟩
         · exact hp.elim)
  | .fdiv => by
    refine OpR.imp (op_fdivW (X := X)) fun x y H Q ⟨ι, s, d, e, hs, r1, r2, hp⟩ => ?_
    cases d <;> cases e <;> first
      | exact (show False from hp).elim
      | (simp only [Rep] at r1 r2
         simp only [binD] at hp
         split at hp
         · exact ⟨_, _, r1, r2, (by assumption), PostP.val hp hs (by simp [Rep])⟩
         · exact hp.elim)
  | .mod => by
    refine OpR.imp (op_mod (X := X)) fun x y H Q ⟨ι, s, d, e, hs, r1, r2, hp⟩ => ?_
    cases d <;> cases e <;> first
      | exact (show False from hp).elim
      | (simp only [Rep] at r1 r2
         simp only [binD] at hp
         split at hp
         · exact ⟨_, _, r1, r2, (by assumption), PostP.val hp hs (by simp [Rep])⟩
         · exact hp.elim)
  | .pow => by
    refine OpR.imp (op_pow (X := X)) fun x y H Q ⟨ι, s, d, e, hs, r1, r2, hp⟩ => ?_
    cases d <;> cases e <;> first
      | exact (show False from hp).elim
      | (simp only [Rep] at r1 r2
         simp only [binD] at hp
         split at hp
         · exact ⟨_, _, r1, r2, (by assumption), PostP.val hp hs (by simp [Rep])⟩
         · exact hp.elim)

theorem flat_V {K : PySem.W.Frag} {d : D} {v : V} (r : Rep K ι H d v) (h : flatD d = true) : flatV v = true := by
  cases d <;> first
    | exact (Bool.false_ne_true h).elim
    | (simp only [Rep] at r; subst r; rfl)
theorem flat_eq {K : PySem.W.Frag} {d e : D} {v w : V} (r : Rep K ι H d v) (q : Rep K ι H e w) (h : flatD d = true) (h' : flatD e = true) : eqV v w = eqF d e := by
  cases d <;> cases e <;> first
    | exact (Bool.false_ne_true h).elim
    | exact (Bool.false_ne_true h').elim
    | (simp only [Rep] at r q; subst r; subst q; rfl)
theorem flat_all {K : PySem.W.Frag} {e : D} {w : V} (q : Rep K ι H e w) (h' : flatD e = true) : ∀ {ds : List D} {vs : List V}, Reps K ι H ds vs → ds.all flatD = true → vs.all flatV = true ∧ inV w vs = ds.any fun z => eqF z e
  | [], vs, r, _ => by simp only [Reps] at r; subst r; exact ⟨rfl, rfl⟩
  | d :: ds, vs, r, h => by
    simp only [Reps] at r
    obtain ⟨v, ws, rfl, h1, h2⟩ := r
    simp only [List.all_cons, Bool.and_eq_true] at h
    obtain ⟨g1, g2⟩ := flat_all q h' h2 h.2
    refine ⟨by simp only [List.all_cons, Bool.and_eq_true]; exact ⟨flat_V h1 h.1, g1⟩, ?_⟩
    unfold inV at g2 ⊢
    simp only [List.any_cons, g2, flat_eq h1 q h.1 h']

theorem Rep.str_of {K : PySem.W.Frag} {x : Str} {v : V} (r : Rep K ι H (.str x) v) : v = .str x := by simpa only [Rep] using r
theorem Rep.int_of {K : PySem.W.Frag} {i : Int} {v : V} (r : Rep K ι H (.int i) v) : v = .int i := by simpa only [Rep] using r
theorem Rep.bl_of {K : PySem.W.Frag} {b : Bool} {v : V} (r : Rep K ι H (.bl b) v) : v = .bl b := by simpa only [Rep] using r
theorem Rep.non_of {K : PySem.W.Frag} {v : V} (r : Rep K ι H .non v) : v = .non := by simpa only [Rep] using r
theorem rep_bl {K : PySem.W.Frag} (b : Bool) : Rep K ι H (.bl b) (.bl b) := by simp only [Rep]
theorem rep_int {K : PySem.W.Frag} (b : Int) : Rep K ι H (.int b) (.int b) := by simp only [Rep]
theorem rep_str {K : PySem.W.Frag} (b : Str) : Rep K ι H (.str b) (.str b) := by simp only [Rep]
theorem rep_non {K : PySem.W.Frag} : Rep K ι H .non .non := by simp only [Rep]

/-- a Bool as the value True or False -/
abbrev bv (r : R Bool) : R D := r.bind fun b s => .ok (.bl b) s
theorem op_inK (hu : X.A.units + 1 < cLine) : OpR X (compareOp .In) (fun x y H Q => ∃ a kvs k, y = .ref a ∧ x = kV k ∧ H a = some (.dK kvs) ∧ Q (.bl (valV kvs k).isSome) H) := by
  intro pins s σ H x y v u Q I rx ry h
  obtain ⟨a, kvs, k, rfl, rfl, e, q⟩ := h
  cases ry
  exact d_in hu I (DGet.k e) rx fun s' I' => ⟨.bl _, H, I', rfl, q⟩
theorem op_ninK (hu : X.A.units + 1 < cLine) : OpR X (compareOp .NotIn) (fun x y H Q => ∃ a kvs k, y = .ref a ∧ x = kV k ∧ H a = some (.dK kvs) ∧ Q (.bl (!(valV kvs k).isSome)) H) := by
  intro pins s σ H x y v u Q I rx ry h
  obtain ⟨a, kvs, k, rfl, rfl, e, q⟩ := h
  cases ry
  exact d_notIn hu I (DGet.k e) rx fun s' I' => ⟨.bl _, H, I', rfl, q⟩
theorem some_eq {κ : Type} [DecidableEq κ] {K : PySem.W.Frag} {k : κ} {ks : List (κ × D)} {vs : List (κ × V)} (h : RepF K ι H ks vs) : (valV vs k).isSome = (getK ks k).isSome := by
  rcases h.get (k := k) with ⟨a, b⟩ | ⟨d, v, a, b, _⟩ <;> rw [a, b] <;> rfl
theorem op_in (hK : U.K = X.K) (hu : X.A.units + 65 < cLine) : OpR X (compareOp .In) (rOp U (boolR (cmpD .inn))) := by
  have big := (op_in_sign (X := X)).or ((op_in_str (X := X)).or ((op_inD hu).or ((op_in_seq (X := X)).or (op_inK (by omega)))))
  refine OpR.imp big fun x y H Q ⟨ι, s, d, e, hs, r1, r2, hp⟩ => ?_
  replace hp : PostP U ι H (bv (inD d e s)) Q := hp
  unfold inD at hp
  split at hp
  · rename_i i j
    cases r1.str_of; cases r2.str_of
    simp only [bv, R.bind_ok, inStr] at hp
    split at hp
    · rename_i c q
      have e : i = ⟨#[c]⟩ := by cases i with | mk a => simp only [Str.mk.injEq]; exact Array.toList_inj.mp q
      subst e
      exact .inl ⟨c, j, rfl, rfl, hp.val hs (rep_bl _)⟩
    · exact .inr (.inl ⟨i, j, rfl, rfl, hp.val hs (rep_bl _)⟩)
  · rename_i n _
    split at hp
    · rename_i kvs e
      split at hp
      · rename_i k ek
        simp only [Rep] at r2
        obtain ⟨a, rfl, i⟩ := r2
        obtain ⟨vs, h1, h2⟩ := dct_at hs e i
        refine .inr (.inr (.inr (.inr ⟨a, vs, k, rfl, rep_key ek r1, h1, ?_⟩)))
        rw [some_eq h2]
        exact hp.val hs (rep_bl _)
      · exact hp.elim
    split at hp
    · rename_i d' ds q1 q2
      split at hp
      · rename_i q3
        exact .inr (.inr (.inl ⟨d', ds, hK ▸ toP_dp hs _ _ _ _ r1 q1, hK ▸ toP_dp hs _ _ _ _ r2 q2, q3.1, q3.2, hp.val hs (rep_bl _)⟩))
      · exact hp.elim
    · exact hp.elim
  · split at hp
    · rename_i q
      simp only [Rep] at r2
      obtain ⟨a, vs, rfl, h1, h2⟩ := r2
      obtain ⟨g1, g2⟩ := flat_all r1 q.1 h2 q.2
      refine .inr (.inr (.inr (.inl ⟨a, vs, rfl, .inr (hK ▸ h1.sq), flat_V r1 q.1, g1, ?_⟩)))
      have z := hp.val hs (rep_bl _)
      rw [← g2] at z
      exact z
    · exact hp.elim
  · exact hp.elim
theorem op_nin (hK : U.K = X.K) (hu : X.A.units + 65 < cLine) : OpR X (compareOp .NotIn) (rOp U (boolR (cmpD .nin))) := by
  have big := (op_notIn_sign (X := X)).or ((op_notIn_str (X := X)).or ((op_notInD hu).or ((op_notIn_seq (X := X)).or (op_ninK (by omega)))))
  refine OpR.imp big fun x y H Q ⟨ι, s, d, e, hs, r1, r2, hp⟩ => ?_
  replace hp : PostP U ι H (bv ((inD d e s).bind fun b s => .ok (!b) s)) Q := hp
  unfold inD at hp
  split at hp
  · rename_i i j
    cases r1.str_of; cases r2.str_of
    simp only [bv, R.bind_ok, inStr] at hp
    split at hp
    · rename_i c q
      have e : i = ⟨#[c]⟩ := by cases i with | mk a => simp only [Str.mk.injEq]; exact Array.toList_inj.mp q
      subst e
      exact .inl ⟨c, j, rfl, rfl, hp.val hs (rep_bl _)⟩
    · exact .inr (.inl ⟨i, j, rfl, rfl, hp.val hs (rep_bl _)⟩)
  · rename_i n _
    split at hp
    · rename_i kvs e
      split at hp
      · rename_i k ek
        simp only [Rep] at r2
        obtain ⟨a, rfl, i⟩ := r2
        obtain ⟨vs, h1, h2⟩ := dct_at hs e i
        refine .inr (.inr (.inr (.inr ⟨a, vs, k, rfl, rep_key ek r1, h1, ?_⟩)))
        rw [some_eq h2]
        exact hp.val hs (rep_bl _)
      · exact hp.elim
    split at hp
    · rename_i d' ds q1 q2
      split at hp
      · rename_i q3
        exact .inr (.inr (.inl ⟨d', ds, hK ▸ toP_dp hs _ _ _ _ r1 q1, hK ▸ toP_dp hs _ _ _ _ r2 q2, q3.1, q3.2, hp.val hs (rep_bl _)⟩))
      · exact hp.elim
    · exact hp.elim
  · split at hp
    · rename_i q
      simp only [Rep] at r2
      obtain ⟨a, vs, rfl, h1, h2⟩ := r2
      obtain ⟨g1, g2⟩ := flat_all r1 q.1 h2 q.2
      refine .inr (.inr (.inr (.inl ⟨a, vs, rfl, .inr (hK ▸ h1.sq), flat_V r1 q.1, g1, ?_⟩)))
      have z := hp.val hs (rep_bl _)
      rw [← g2] at z
      exact z
    · exact hp.elim
  · exact hp.elim
/-! dicts compared -/
theorem eqP_ok {d e : D} {b : Bool} {s' : S} (h : eqP d e s = .ok b s') : s' = s ∧ ∃ p q, toP 60 s d = some p ∧ toP 60 s e = some q ∧ SeqAt.shaped p = true ∧ SeqAt.shaped q = true ∧ b = PyData.eqv p q := by
  unfold eqP at h
  split at h
  · rename_i p q e1 e2
    split at h
    · rename_i q3
      cases h
      exact ⟨rfl, p, q, e1, e2, q3.1, q3.2, rfl⟩
    · cases h
  · cases h
theorem hits_of (hK : U.K = X.K) {pins : List (Addr × Obj)} {σ : L2.St} {sh : Shared} (I : Inv X pins σ H sh) (hs : RelS U ι s H) {A : Around} (hu : A.in1.units + 64 < cLine) {ls : List (Key × D)} {vl : List (Key × V)} {wl : List (Key × Value)} (rl : RepF U.K ι H ls vl) (kl : KV vl wl) :
    ∀ {ks : List (Key × D)} {vk : List (Key × V)} {wk : List (Key × Value)} {b : Bool} {s' : S}, RepF U.K ι H ks vk → KV vk wk → eqHits ls s ks = .ok b s' → s' = s ∧ PySem.W.KeqHits A.in1 sh wl wk b
  | [], _, _, b, s', rk, kk, h => by
    cases (show _ = [] from rk)
    cases kk
    simp only [eqHits, R.ok.injEq] at h
    obtain ⟨rfl, rfl⟩ := h
    exact ⟨rfl, .nil⟩
  | (k, d) :: ks, _, _, b, s', rk, kk, h => by
    obtain ⟨v, vs, rfl, r1, r2⟩ := rk
    cases kk with
    | @cons _ q _ qs hq hqs =>
    obtain ⟨k', w⟩ := q
    obtain ⟨ek, rw'⟩ := hq
    cases (show k = k' from ek)
    simp only [eqHits] at h
    have hv := kl.val k
    rcases rl.get (k := k) with ⟨g1, g2⟩ | ⟨e, ve, g1, g2, g3⟩
    · rw [g1] at h
      simp only [R.ok.injEq] at h
      obtain ⟨rfl, rfl⟩ := h
      rw [g2] at hv
      exact ⟨rfl, .miss (RelO.none_of hv)⟩
    · rw [g1] at h
      simp only [] at h
      rw [g2] at hv
      obtain ⟨we, hwe, rwe⟩ := RelO.some_of hv
      cases h1 : eqP d e s with
      | bad => rw [h1] at h; cases h
      | exc _ _ _ => rw [h1] at h; cases h
      | ok a s1 =>
        rw [h1] at h
        obtain ⟨_, p, q, e1, e2, s1', s2', rfl⟩ := eqP_ok h1
        simp only [R.bind_ok] at h
        cases h2 : eqHits ls s ks with
        | bad => rw [h2] at h; cases h
        | exc _ _ _ => rw [h2] at h; cases h
        | ok b2 s2 =>
          rw [h2] at h
          simp only [R.bind_ok, R.ok.injEq] at h
          obtain ⟨rfl, rfl⟩ := h
          obtain ⟨rfl, ih⟩ := hits_of hK I hs hu rl kl r2 hqs h2
          obtain ⟨as, ra⟩ := Dp.reads I p v w (hK ▸ toP_dp hs _ _ _ _ r1 e1) rw'
          obtain ⟨bs, rb⟩ := Dp.reads I q ve we (hK ▸ toP_dp hs _ _ _ _ g3 e2) rwe
          exact ⟨rfl, .hit hwe (PySem.W.keq_at ra rb s1' s2' hu) ih⟩
theorem eqK_hits (hK : U.K = X.K) {pins : List (Addr × Obj)} {σ : L2.St} {sh : Shared} (I : Inv X pins σ H sh) (hs : RelS U ι s H) {A : Around} (hu : A.in1.units + 64 < cLine) {ks ls : List (Key × D)} {vk vl : List (Key × V)} {wk wl : List (Key × Value)}
    (rk : RepF U.K ι H ks vk) (kk : KV vk wk) (rl : RepF U.K ι H ls vl) (kl : KV vl wl) {b : Bool} {s' : S} (h : eqK ks ls s = .ok b s') : s' = s ∧ ∃ r, (wk.length = wl.length → PySem.W.KeqHits A.in1 sh wl wk r) ∧ b = (wk.length == wl.length && r) := by
  have l1 : wk.length = ks.length := kk.length.symm.trans rk.length
  have l2 : wl.length = ls.length := kl.length.symm.trans rl.length
  unfold eqK at h
  split at h
  · rename_i hl
    obtain ⟨rfl, z⟩ := hits_of hK I hs hu rl kl rk kk h
    refine ⟨rfl, b, fun _ => z, ?_⟩
    rw [l1, l2, hl]; simp
  · rename_i hl
    simp only [R.ok.injEq] at h
    obtain ⟨rfl, rfl⟩ := h
    refine ⟨rfl, false, fun z => ?_, by simp⟩
    rw [l1, l2] at z
    exact absurd z hl
theorem eqK_noexc {ks ls : List (Key × D)} {s : S} : ∀ c fs s', eqK ks ls s ≠ .exc c fs s' := by
  have hP : ∀ x y s c fs s', eqP x y s ≠ .exc c fs s' := by
    intro x y s c fs s' h
    unfold eqP at h
    split at h
    · split at h <;> cases h
    · cases h
  have hh : ∀ ks c fs s', eqHits ls s ks ≠ .exc c fs s' := by
    intro ks
    induction ks with
    | nil => intro c fs s' h; cases h
    | cons p ks ih =>
      intro c fs s' h
      obtain ⟨k, d⟩ := p
      simp only [eqHits] at h
      split at h
      · cases h
      · rename_i u _
        cases h1 : eqP d u s with
        | bad => rw [h1] at h; cases h
        | exc _ _ _ => exact hP _ _ _ _ _ _ h1
        | ok a s1 =>
          rw [h1] at h
          simp only [R.bind_ok] at h
          cases h2 : eqHits ls s ks with
          | bad => rw [h2] at h; cases h
          | exc _ _ _ => exact ih _ _ _ h2
          | ok a s1 => rw [h2] at h; cases h
  intro c fs s' h
  unfold eqK at h
  split at h
  · exact hh _ _ _ _ h
  · cases h
def rEqK (U : Su) (f : Bool → Bool) : R2 := fun x y H Q => ∃ ι s a b ks ls, RelS U ι s H ∧ x = .ref a ∧ y = .ref b ∧ ObR U ι H a (.dct ks) ∧ ObR U ι H b (.dct ls) ∧ PostP U ι H (bv ((eqK ks ls s).bind fun k s => .ok (f k) s)) Q
theorem in1_units {A : Around} : A.in1.units = A.units + 1 := rfl
theorem op_eqK (hK : U.K = X.K) (hu : X.A.units + 65 < cLine) : OpR X (compareOp .Eq) (fun x y H Q => ∃ ι s a b ks ls, RelS U ι s H ∧ x = .ref a ∧ y = .ref b ∧ ObR U ι H a (.dct ks) ∧ ObR U ι H b (.dct ls) ∧ PostP U ι H (bv (eqK ks ls s)) Q) := by
  intro pins s σ H x y v u Q I rx ry ⟨ι, st, a, b, ks, ls, hs, ex, ey, ⟨va, ea, ra⟩, ⟨vb, eb, rb⟩, hp⟩
  subst ex ey
  cases rx
  cases ry
  obtain ⟨_, ya, wa, ka, da⟩ := dk_of I.hok ea
  obtain ⟨_, yb, wb, kb, db⟩ := dk_of I.hok eb
  cases h : eqK ks ls st with
  | bad => rw [h] at hp; exact hp.elim
  | exc c fs s' => exact (eqK_noexc _ _ _ h).elim
  | ok k s' =>
    obtain ⟨rfl, r, hr, rfl⟩ := eqK_hits hK I hs (A := X.A) (by rw [in1_units]; omega) ra ka rb kb h
    rw [h] at hp
    exact PySem.W.keq_eq (knd := mixKind X.prog X.w) (r := r) ya yb da db (by omega) hr ⟨.bl _, H, I, rfl, hp.val hs (rep_bl _)⟩
theorem op_neK (hK : U.K = X.K) (hu : X.A.units + 65 < cLine) : OpR X (compareOp .NotEq) (fun x y H Q => ∃ ι s a b ks ls, RelS U ι s H ∧ x = .ref a ∧ y = .ref b ∧ ObR U ι H a (.dct ks) ∧ ObR U ι H b (.dct ls) ∧ PostP U ι H (bv ((eqK ks ls s).bind fun k s => .ok (!k) s)) Q) := by
  intro pins s σ H x y v u Q I rx ry ⟨ι, st, a, b, ks, ls, hs, ex, ey, ⟨va, ea, ra⟩, ⟨vb, eb, rb⟩, hp⟩
  subst ex ey
  cases rx
  cases ry
  obtain ⟨_, ya, wa, ka, da⟩ := dk_of I.hok ea
  obtain ⟨_, yb, wb, kb, db⟩ := dk_of I.hok eb
  cases h : eqK ks ls st with
  | bad => rw [h] at hp; exact hp.elim
  | exc c fs s' => exact (eqK_noexc _ _ _ h).elim
  | ok k s' =>
    obtain ⟨rfl, r, hr, rfl⟩ := eqK_hits hK I hs (A := X.A) (by rw [in1_units]; omega) ra ka rb kb h
    rw [h] at hp
    exact PySem.W.keq_ne (knd := mixKind X.prog X.w) (r := r) ya yb da db (by omega) hr ⟨.bl _, H, I, rfl, hp.val hs (rep_bl _)⟩
def copOf : Cop → CmpOp
  | .lt => .Lt | .le => .LtE | .gt => .Gt | .ge => .GtE | .eq => .Eq | .ne => .NotEq | .isn => .Is | .notn => .IsNot | .inn => .In | .nin => .NotIn
theorem op_cmpD (hK : U.K = X.K) (hu : X.A.units + 65 < cLine) : ∀ o : Cop, OpR X (compareOp (copOf o)) (rOp U (boolR (cmpD o)))
  | .lt => by
    refine OpR.imp ((op_lt (X := X)).or (op_lt_str (X := X))) fun x y H Q ⟨ι, s, d, e, hs, r1, r2, hp⟩ => ?_
    cases d <;> cases e <;> first
      | exact (show False from hp).elim
      | exact .inl ⟨_, _, r1.int_of, r2.int_of, PostP.val hp hs (rep_bl _)⟩
      | exact .inr ⟨_, _, r1.str_of, r2.str_of, PostP.val hp hs (rep_bl _)⟩
  | .le => by
    refine OpR.imp (op_le (X := X)) fun x y H Q ⟨ι, s, d, e, hs, r1, r2, hp⟩ => ?_
    cases d <;> cases e <;> first
      | exact (show False from hp).elim
      | exact ⟨_, _, r1.int_of, r2.int_of, PostP.val hp hs (rep_bl _)⟩
  | .gt => by
    refine OpR.imp (op_gt (X := X)) fun x y H Q ⟨ι, s, d, e, hs, r1, r2, hp⟩ => ?_
    cases d <;> cases e <;> first
      | exact (show False from hp).elim
      | exact ⟨_, _, r1.int_of, r2.int_of, PostP.val hp hs (rep_bl _)⟩
  | .ge => by
    refine OpR.imp (op_ge (X := X)) fun x y H Q ⟨ι, s, d, e, hs, r1, r2, hp⟩ => ?_
    cases d <;> cases e <;> first
      | exact (show False from hp).elim
      | exact ⟨_, _, r1.int_of, r2.int_of, PostP.val hp hs (rep_bl _)⟩
  | .eq => by
    refine OpR.imp ((op_eqD (X := X) (by omega)).or (op_eqK hK hu)) fun x y H Q ⟨ι, s, d, e, hs, r1, r2, hp⟩ => ?_
    replace hp : PostP U ι H (bv (eqD d e s)) Q := hp
    have pl : PostP U ι H (bv (eqP d e s)) Q → rEqD X.K x y H Q := fun hp => by
      unfold eqP at hp
      split at hp
      · rename_i p q e1 e2
        split at hp
        · rename_i q3
          exact ⟨p, q, hK ▸ toP_dp hs _ _ _ _ r1 e1, hK ▸ toP_dp hs _ _ _ _ r2 e2, q3.1, q3.2, hp.val hs (rep_bl _)⟩
        · exact hp.elim
      · exact hp.elim
    unfold eqD at hp
    split at hp
    · split at hp
      · rename_i m n _ _ ks ls e1 e2
        simp only [Rep] at r1 r2
        obtain ⟨a, rfl, i1⟩ := r1
        obtain ⟨b, rfl, i2⟩ := r2
        exact .inr ⟨ι, s, a, b, ks, ls, hs, rfl, rfl, hs.at e1 i1, hs.at e2 i2, hp⟩
      · exact .inl (pl hp)
    · exact .inl (pl hp)
  | .ne => by
    refine OpR.imp ((op_neD (X := X) (by omega)).or (op_neK hK hu)) fun x y H Q ⟨ι, s, d, e, hs, r1, r2, hp⟩ => ?_
    replace hp : PostP U ι H (bv ((eqD d e s).bind fun b s => .ok (!b) s)) Q := hp
    have pl : PostP U ι H (bv ((eqP d e s).bind fun b s => .ok (!b) s)) Q → rNeD X.K x y H Q := fun hp => by
      unfold eqP at hp
      split at hp
      · rename_i p q e1 e2
        split at hp
        · rename_i q3
          exact ⟨p, q, hK ▸ toP_dp hs _ _ _ _ r1 e1, hK ▸ toP_dp hs _ _ _ _ r2 e2, q3.1, q3.2, hp.val hs (rep_bl _)⟩
        · exact hp.elim
      · exact hp.elim
    unfold eqD at hp
    split at hp
    · split at hp
      · rename_i m n _ _ ks ls e1 e2
        simp only [Rep] at r1 r2
        obtain ⟨a, rfl, i1⟩ := r1
        obtain ⟨b, rfl, i2⟩ := r2
        exact .inr ⟨ι, s, a, b, ks, ls, hs, rfl, rfl, hs.at e1 i1, hs.at e2 i2, hp⟩
      · exact .inl (pl hp)
    · exact .inl (pl hp)
  | .isn => by
    refine OpR.imp (op_isN (X := X)) fun x y H Q ⟨ι, s, d, e, hs, r1, r2, hp⟩ => ?_
    have hd : decide (x = .non) = d.isNon := by
      cases d <;> simp only [Rep] at r1 <;> first
        | (subst r1; rfl)
        | exact r1.elim
        | (obtain ⟨_, _, rfl, _⟩ := r1; rfl)
        | (obtain ⟨_, rfl, _⟩ := r1; rfl)
    cases e <;> first
      | exact ⟨r2.non_of, hd ▸ PostP.val hp hs (rep_bl _)⟩
      | exact (show False from by cases d <;> exact hp).elim
  | .notn => by
    refine OpR.imp (op_notN (X := X)) fun x y H Q ⟨ι, s, d, e, hs, r1, r2, hp⟩ => ?_
    have hd : decide (x = .non) = d.isNon := by
      cases d <;> simp only [Rep] at r1 <;> first
        | (subst r1; rfl)
        | exact r1.elim
        | (obtain ⟨_, _, rfl, _⟩ := r1; rfl)
        | (obtain ⟨_, rfl, _⟩ := r1; rfl)
    cases e <;> first
      | exact ⟨r2.non_of, hd ▸ PostP.val hp hs (rep_bl _)⟩
      | exact (show False from by cases d <;> exact hp).elim
  | .inn => op_in hK hu
  | .nin => op_nin hK hu
theorem un_negD : UnR X (unaryOp .USub) (fun x H Q => ∃ ι s d, RelS U ι s H ∧ Rep U.K ι H d x ∧ PostP U ι H (negD d s) Q) := by
  intro pins s σ H x v Q I rx ⟨ι, st, d, hs, r1, hp⟩
  cases d <;> first
    | exact (show False from hp).elim
    | exact un_neg pins s σ H x v Q I rx ⟨_, r1.int_of, PostP.val hp hs (rep_int _)⟩
/-- truth -/
abbrev PostB (U : Su) (ι : List Addr) (H : Hp) (r : R Bool) (Q : Bool → Hp → Prop) : Prop := Post U RB W0 [] ι H r Q
theorem PostB.val {b : Bool} {Q : Bool → Hp → Prop} (h : PostB U ι H (.ok b s) Q) (hs : RelS U ι s H) : Q b H := h ι H b (Go.refl _ _) hs rfl
theorem tru_D {K : PySem.W.Frag} (hK : U.K = K) {x : V} {d : D} {Q : Bool → Hp → Prop} (hs : RelS U ι s H) (r : Rep U.K ι H d x) (hp : PostB U ι H (truD d s) Q) : ∃ k, TruV K x H k ∧ Q k H := by
  cases d with
  | non => cases r.non_of; exact ⟨_, rfl, hp.val hs⟩
  | bl b => cases r.bl_of; exact ⟨_, rfl, hp.val hs⟩
  | int b => cases r.int_of; exact ⟨_, rfl, hp.val hs⟩
  | str b =>
    cases r.str_of
    simp only [truD] at hp
    split at hp
    · exact ⟨_, ⟨by assumption, rfl⟩, hp.val hs⟩
    · exact hp.elim
  | tup ds =>
    simp only [Rep] at r
    obtain ⟨a, vs, rfl, h1, h2⟩ := r
    have g := h2.length
    refine ⟨!ds.isEmpty, .inr (.inl ⟨vs, hK ▸ h1.sq, ?_⟩), hp.val hs⟩
    cases ds <;> cases vs <;> simp_all
  | flst ds =>
    simp only [Rep] at r
    obtain ⟨a, vs, rfl, h1, h2⟩ := r
    have g := h2.length
    refine ⟨!ds.isEmpty, .inl ⟨vs, hK ▸ h1.sq, ?_⟩, hp.val hs⟩
    cases ds <;> cases vs <;> simp_all
  | ref n =>
    simp only [Rep] at r
    obtain ⟨a, rfl, i⟩ := r
    simp only [truD] at hp
    split at hp
    · rename_i ds q
      obtain ⟨vs, h1, h2⟩ := lst_sq hs q i
      have g := h2.length
      refine ⟨!ds.isEmpty, .inl ⟨vs, hK ▸ h1, ?_⟩, hp.val hs⟩
      cases ds <;> cases vs <;> simp_all
    · exact hp.elim
theorem atI_len {α β : Type} {xs : List α} {ys : List β} (h : ys.length = xs.length) (i : Int) : ∀ x, atI xs i = some x → ∃ j : Nat, xs[j]? = some x ∧ ixN xs.length i = some j ∧ ∀ y, ys[j]? = some y → atI ys i = some y := by
  intro x e
  unfold atI at e ⊢
  rw [h]
  cases q : ixN xs.length i with
  | none => rw [q] at e; cases e
  | some j =>
    rw [q] at e
    exact ⟨j, e, rfl, fun y z => z⟩
theorem ix_K (hu : X.A.units + 1 < cLine) : IxR X (fun x y H Q => ∃ a kvs k v, x = .ref a ∧ y = kV k ∧ H a = some (.dK kvs) ∧ valV kvs k = some v ∧ Q v H) := by
  intro value slice pins s σ H x y v u Q I rx ry ⟨a, kvs, k, w, ex, ey, e, hv, q⟩ hsu
  subst ex ey
  cases rx
  have g : DGet H a (kV k) (some w) := by rw [← hv]; exact DGet.k e
  exact tail_any (dict_typeIs I g) slot_dict_getitem.lookup (d_getItem hu I g ry fun w' s' I' r' => ⟨w, H, I', r', q⟩) hsu
theorem ixS_ok (hK : U.K = X.K) {x y : V} {d : D} {i : Int} {Q : V → Hp → Prop} (hs : RelS U ι s H) (r1 : Rep U.K ι H d x) (hy : y = .int i) (hp : PostP U ι H (ixS d i s) Q) : rIxL X.K x y H Q ∨ rIxT X.K x y H Q := by
  unfold ixS at hp
  split at hp
  · rename_i w q
    simp only [Option.bind_eq_some_iff] at q
    obtain ⟨ds, q1, q2⟩ := q
    obtain ⟨a, vs, rfl, h1, h2⟩ := seq_sq hs q1 r1
    obtain ⟨j, g1, _, g3⟩ := atI_len h2.length i w q2
    obtain ⟨wv, g4, g5⟩ := h2.get g1
    rcases h1 with h1 | h1
    · exact .inl ⟨a, vs, i, wv, rfl, hy, hK ▸ h1, g3 wv g4, hp.val hs g5⟩
    · exact .inr ⟨a, vs, i, wv, rfl, hy, hK ▸ h1.sq, g3 wv g4, hp.val hs g5⟩
  · exact hp.elim
theorem ix_D (hK : U.K = X.K) (hu : X.A.units + 1 < cLine) : IxR X (rOp U ixD) := by
  intro value slice pins s σ H x y v u Q I rx ry ⟨ι, st, d, e, hs, r1, r2, hp⟩ hsu
  refine ((ix_seq (X := X)).or (ix_K hu)) value slice pins s σ H x y v u Q I rx ry ?_ hsu
  have sq : ∀ i, e = .int i → PostP U ι H (ixS d i st) Q → rIx X.K x y H Q := fun i he hq => by
    rcases ixS_ok hK hs r1 (show y = .int i by rw [he] at r2; exact r2.int_of) hq with z | z
    · exact .inl z
    · exact .inr (.inl z)
  unfold ixD at hp
  split at hp
  · rename_i z i
    split at hp
    · split at hp
      · rename_i c q
        exact .inl (.inr (.inr ⟨z, i, c, r1.str_of, r2.int_of, by assumption, q, hp.val hs (rep_str _)⟩))
      · exact hp.elim
    · exact hp.elim
  · rename_i n _ _
    split at hp
    · rename_i kvs e1
      split at hp
      · rename_i w e2
        obtain ⟨k, ek, g⟩ := Option.bind_eq_some_iff.mp e2
        simp only [Rep] at r1
        obtain ⟨a, rfl, i⟩ := r1
        obtain ⟨vs, h1, h2⟩ := dct_at hs (dctAt_of e1) i
        rcases h2.get (k := k) with ⟨g1, _⟩ | ⟨d', v', g1, g2, g3⟩
        · rw [g] at g1; cases g1
        · rw [g] at g1
          cases g1
          exact .inr ⟨a, vs, k, v', rfl, rep_key ek r2, h1, g2, hp.val hs g3⟩
      · exact hp.elim
    · split at hp
      · exact .inl (sq _ rfl hp)
      · exact hp.elim
  · exact .inl (sq _ rfl hp)
  · exact hp.elim
theorem Reps.cut {K : PySem.W.Frag} {ds : List D} {vs : List V} (lo hi : Option Int) (h : Reps K ι H ds vs) : Reps K ι H (cutL ds lo hi) (cutV vs lo hi) := by
  unfold cutL cutV
  rw [h.length]
  exact (h.drop _).take _
theorem sl_D (hK : U.K = X.K) : SlR X (fun x lo hi H Q => ∃ ι s d, RelS U ι s H ∧ Rep U.K ι H d x ∧ PostP U ι H (slD d lo hi s) Q) := by
  intro pins s σ H x v vl vu lo hi sl Q I rx hsl pl pu ⟨ι, st, d, hs, r, hp⟩
  refine ((sl_str (X := X)).or ((sl_list (X := X)).or (sl_tupA (X := X)))) pins s σ H x v vl vu lo hi sl Q I rx hsl pl pu ?_
  unfold slD at hp
  split at hp
  · split at hp
    · exact .inl ⟨_, r.str_of, by assumption, hp.val hs (rep_str _)⟩
    · exact hp.elim
  · rename_i ds
    simp only [Rep] at r
    obtain ⟨a, vs, rfl, h1, h2⟩ := r
    refine .inr (.inr ⟨a, vs, rfl, hK ▸ h1.sq, fun z => ?_, fun z p np => hp.tup hs np (h2.cut lo hi)⟩)
    refine hp.val hs ?_
    simp only [Rep]
    refine ⟨a, vs, rfl, h1, ?_⟩
    have g := h2.cut lo hi
    have e : cutV vs lo hi = vs := by
      unfold cutV
      rw [z.1, z.2]
      simp
    rw [e] at g
    exact g
  · rename_i n
    simp only [Rep] at r
    obtain ⟨a, rfl, i⟩ := r
    split at hp
    · rename_i ds q
      obtain ⟨vs, h1, h2⟩ := lst_sq hs q i
      exact .inr (.inl ⟨a, vs, rfl, hK ▸ h1, fun p np => hp.mk hs np (ObR.lst np (h2.cut lo hi))⟩)
    · exact hp.elim
  · exact hp.elim
end
end G

set_option Elab.async false
set_option linter.all false
set_option maxRecDepth 100000
set_option autoImplicit false
set_option maxHeartbeats 1000000
/-! G4: built-in calls, methods, isinstance, stores, sources and targets. -/
namespace G
open PySem PySem.Spec PyProof.Rows L2

def rCall (U : Su) (m : List D → S → R D) : List V → Hp → VK → Prop := fun xs H Q => ∃ ι s ds, RelS U ι s H ∧ Reps U.K ι H ds xs ∧ PostP U ι H (m ds s) Q
theorem Reps.one_of {K : PySem.W.Frag} {ι : List Addr} {H : Hp} {d : D} {xs : List V} (r : Reps K ι H [d] xs) : ∃ v, xs = [v] ∧ Rep K ι H d v := by
  simp only [Reps] at r
  obtain ⟨v, ws, rfl, h, rfl⟩ := r
  exact ⟨v, rfl, h⟩
theorem Reps.two_of {K : PySem.W.Frag} {ι : List Addr} {H : Hp} {d e : D} {xs : List V} (r : Reps K ι H [d, e] xs) : ∃ v w, xs = [v, w] ∧ Rep K ι H d v ∧ Rep K ι H e w := by
  simp only [Reps] at r
  obtain ⟨v, ws, rfl, h, w, us, rfl, h', rfl⟩ := r
  exact ⟨v, w, rfl, h, h'⟩
section
variable {X : Cx} {U : Su}
theorem CallR.imp {f : Value} {r r' : List V → Hp → VK → Prop} (h : CallR X f r) (i : ∀ xs H Q, r' xs H Q → r xs H Q) : CallR X f r' :=
  fun pins s σ H xs us Q I rx q => h pins s σ H xs us Q I rx (i _ _ _ q)
theorem CallR.or {f : Value} {r r' : List V → Hp → VK → Prop} (h : CallR X f r) (h' : CallR X f r') : CallR X f (fun x H Q => r x H Q ∨ r' x H Q) :=
  fun pins s σ H xs us Q I rx q => q.elim (h pins s σ H xs us Q I rx) (h' pins s σ H xs us Q I rx)
def bfName : Bf → Str
  | .len => "len" | .abs => "abs" | .int => "int" | .list => "list" | .tuple => "tuple" | .dict => "dict" | .sorted => "sorted" | .min => "min" | .max => "max"
def bfVal : Bf → Value
  | .len => .builtin "len" | .abs => .builtin "abs" | .int => .type "int" | .list => .type "list" | .tuple => .type "tuple" | .dict => .type "dict" | .sorted => .builtin "sorted" | .min => .builtin "min" | .max => .builtin "max"
/-! texts, sorted -/
theorem leT_le {a b : Str} : leT a b = true ↔ a.cps.toList ≤ b.cps.toList := by unfold leT; exact decide_eq_true_iff
theorem leT_trans (a b c : Str) (h : leT a b = true) (g : leT b c = true) : leT a c = true := leT_le.mpr (List.le_trans (leT_le.mp h) (leT_le.mp g))
theorem leT_total (a b : Str) : (leT a b || leT b a) = true := by
  rcases List.le_total a.cps.toList b.cps.toList with h | h
  · rw [leT_le.mpr h]; rfl
  · rw [leT_le.mpr h, Bool.or_true]
theorem leT_anti {a b : Str} (h : leT a b = true) (g : leT b a = true) : a = b := by
  have e := List.le_antisymm (leT_le.mp h) (leT_le.mp g)
  cases a; cases b
  simp only [Str.mk.injEq] at e ⊢
  exact Array.toList_inj.mp e
theorem leT_of {a b : Str} (h : (!ltCps b.cps.toList a.cps.toList) = true) : leT a b = true := by
  rw [Bool.not_eq_true', ltCps_eq] at h
  exact leT_le.mpr (List.not_lt.mp (of_decide_eq_false h))
theorem rising_pw : ∀ {ys : List Str} {p : Str}, risingS p ys = true → (p :: ys).Pairwise fun a b => leT a b = true
  | [], p, _ => List.pairwise_singleton _ _
  | y :: ys, p, h => by
    unfold risingS at h
    rw [Bool.and_eq_true] at h
    have ih := rising_pw h.2
    refine List.pairwise_cons.mpr ⟨fun z hz => ?_, ih⟩
    rcases List.mem_cons.mp hz with rfl | hz
    · exact leT_of h.1
    · exact leT_trans _ _ _ (leT_of h.1) ((List.pairwise_cons.mp ih).1 z hz)
theorem sorted_is {xs ys : List Str} (hp : ys.Perm xs) (hs : sortedS ys = true) : ys = sortT xs := by
  have h1 : ys.Pairwise fun a b => leT a b = true := by
    cases ys with
    | nil => exact .nil
    | cons y ys => exact rising_pw hs
  exact List.Perm.eq_of_pairwise (fun a b _ _ => leT_anti) h1 (List.pairwise_mergeSort leT_trans leT_total xs) (hp.trans (List.mergeSort_perm xs leT).symm)
theorem strs_V {K : PySem.W.Frag} {ι : List Addr} {H : Hp} : ∀ {ds : List D} {vs : List V} {ys : List Str}, Reps K ι H ds vs → strsOf ds = some ys → vs = ys.map V.str
  | [], vs, ys, r, e => by
    simp only [Reps] at r; simp only [strsOf, Option.some.injEq] at e
    subst r; subst e; rfl
  | d :: ds, vs, ys, r, e => by
    simp only [Reps] at r
    obtain ⟨v, ws, rfl, h1, h2⟩ := r
    cases d <;> simp only [strsOf] at e <;> first
      | (simp only [Option.map_eq_some_iff] at e
         obtain ⟨zs, e, rfl⟩ := e
         rw [strs_V h2 e, h1.str_of]
         rfl)
      | exact nomatch e
theorem reps_strs {K : PySem.W.Frag} {ι : List Addr} {H : Hp} : ∀ ys : List Str, Reps K ι H (ys.map D.str) (ys.map V.str)
  | [] => Reps.nil
  | y :: ys => Reps.cons (rep_str _) (reps_strs ys)
theorem ObR.dct {U : Su} {ι : List Addr} {H : Hp} {p : Addr} {kvs : List (Key × D)} {vs : List (Key × V)} (hp : H p = none) (r : RepF U.K ι H kvs vs) : ObR U (ι ++ [p]) (upd H p (.dK vs)) p (.dct kvs) :=
  ⟨vs, upd_same, r.mono (Ext.one _ _) (Same.kept (same_new hp))⟩
theorem dctOf_ref {s : S} {d : D} {kvs : List (Key × D)} (h : dctOf s d = some kvs) : ∃ n, d = .ref n ∧ s[n]? = some (.dct kvs) := by
  cases d <;> first
    | exact ⟨_, rfl, dctAt_of h⟩
    | cases h
theorem blt_D (hK : U.K = X.K) (hc : X.calm = true) : ∀ b : Bf, CallR X (bfVal b) (rCall U (bltD b))
  | .len => by
    refine CallR.imp ((call_len_str (X := X)).or ((call_len_seq (X := X)).or (call_lenD (X := X)))) fun xs H Q ⟨ι, s, ds, hs, r, hp⟩ => ?_
    unfold bltD at hp
    split at hp <;> first
      | (rename_i z
         split at hp
         · obtain ⟨v, rfl, r1⟩ := r.one_of
           cases r1.str_of
           exact .inl ⟨_, rfl, by assumption, hp.val hs (rep_int _)⟩
         · exact hp.elim)
      | (rename_i z
         split at hp
         · rename_i kvs q
           obtain ⟨n, rfl, e⟩ := dctOf_ref q
           obtain ⟨v, rfl, r1⟩ := r.one_of
           simp only [Rep] at r1
           obtain ⟨a, rfl, i⟩ := r1
           obtain ⟨vs, h1, h2⟩ := dct_at hs e i
           exact .inr (.inr ⟨a, vs, rfl, h1, by rw [h2.length]; exact hp.val hs (rep_int _)⟩)
         · split at hp
           · rename_i es q
             obtain ⟨v, rfl, r1⟩ := r.one_of
             obtain ⟨a, vs, rfl, h1, h2⟩ := seq_sq hs q r1
             refine .inr (.inl ⟨a, vs, rfl, ?_, ?_⟩)
             · rcases h1 with h1 | h1
               · exact .inl (hK ▸ h1)
               · exact .inr (hK ▸ h1.sq)
             · rw [h2.length]; exact hp.val hs (rep_int _)
           · exact hp.elim)
      | exact hp.elim
      | contradiction
      | simp_all
  | .abs => by
    refine CallR.imp (call_abs (X := X)) fun xs H Q ⟨ι, s, ds, hs, r, hp⟩ => ?_
    match ds, r, hp with
    | [.int i], r, hp =>
      obtain ⟨v, rfl, r1⟩ := r.one_of
      cases r1.int_of
      exact ⟨_, rfl, PostP.val hp hs (rep_int _)⟩
    | [], r, hp => exact (show False from hp).elim
    | _ :: _ :: _, r, hp => exact (show False from by unfold bltD at hp; split at hp <;> simp_all [Post]).elim
    | [.non], r, hp => exact (show False from hp).elim
    | [.bl _], r, hp => exact (show False from hp).elim
    | [.str _], r, hp => exact (show False from hp).elim
    | [.tup _], r, hp => exact (show False from hp).elim
    | [.ref _], r, hp => exact (show False from hp).elim
    | [.flst _], r, hp => exact (show False from hp).elim
  | .int => by
    refine CallR.imp (call_int1 (X := X)) fun xs H Q ⟨ι, s, ds, hs, r, hp⟩ => ?_
    match ds, r, hp with
    | [.int i], r, hp =>
      obtain ⟨v, rfl, r1⟩ := r.one_of
      cases r1.int_of
      exact .inl ⟨_, rfl, PostP.val hp hs (rep_int _)⟩
    | [.bl i], r, hp =>
      obtain ⟨v, rfl, r1⟩ := r.one_of
      cases r1.bl_of
      exact .inr ⟨_, rfl, PostP.val hp hs (rep_int _)⟩
    | [], r, hp => exact (show False from hp).elim
    | _ :: _ :: _, r, hp => exact (show False from by unfold bltD at hp; split at hp <;> simp_all [Post]).elim
    | [.non], r, hp => exact (show False from hp).elim
    | [.str _], r, hp => exact (show False from hp).elim
    | [.tup _], r, hp => exact (show False from hp).elim
    | [.ref _], r, hp => exact (show False from hp).elim
    | [.flst _], r, hp => exact (show False from hp).elim
  | .list => by
    refine CallR.imp ((call_list_of (X := X)).or (call_listD hc)) fun xs H Q ⟨ι, s, ds, hs, r, hp⟩ => ?_
    match ds, r, hp with
    | [x], r, hp =>
      obtain ⟨v, rfl, r1⟩ := r.one_of
      simp only [bltD] at hp
      split at hp
      · rename_i kvs q
        obtain ⟨n, rfl, e⟩ := dctOf_ref q
        simp only [Rep] at r1
        obtain ⟨a, rfl, i⟩ := r1
        obtain ⟨vs, h1, h2⟩ := dct_at hs e i
        exact .inr ⟨a, vs, rfl, .inl h1, fun p np => hp.mk hs np (ObR.lst np (reps_keys h2))⟩
      · split at hp
        · rename_i es q
          obtain ⟨a, vs, rfl, h1, h2⟩ := seq_sq hs q r1
          refine .inl ⟨a, vs, rfl, ?_, fun p np => hp.mk hs np (ObR.lst np h2)⟩
          rcases h1 with h1 | h1
          · exact .inl (hK ▸ h1)
          · exact .inr (hK ▸ h1.sq)
        · exact hp.elim
    | [], r, hp => exact (show False from hp).elim
    | _ :: _ :: _, r, hp => exact (show False from by unfold bltD at hp; split at hp <;> simp_all [Post]).elim
  | .dict => by
    refine CallR.imp (call_dictD (X := X)) fun xs H Q ⟨ι, s, ds, hs, r, hp⟩ => ?_
    match ds, r, hp with
    | [x], r, hp =>
      obtain ⟨v, rfl, r1⟩ := r.one_of
      simp only [bltD] at hp
      split at hp
      · rename_i kvs q
        obtain ⟨n, rfl, e⟩ := dctOf_ref q
        simp only [Rep] at r1
        obtain ⟨a, rfl, i⟩ := r1
        obtain ⟨vs, h1, h2⟩ := dct_at hs e i
        exact ⟨a, vs, rfl, .inl h1, fun p np => hp.mk hs np (ObR.dct np h2)⟩
      · exact hp.elim
    | [], r, hp => exact (show False from hp).elim
    | _ :: _ :: _, r, hp => exact (show False from by unfold bltD at hp; split at hp <;> simp_all [Post]).elim
  | .sorted => by
    refine CallR.imp (cr_sortedS (X := X)) fun xs H Q ⟨ι, s, ds, hs, r, hp⟩ => ?_
    unfold bltD at hp
    split at hp <;> first
      | (exact hp.elim; done)
      | contradiction
      | (rename_i n _
         split at hp
         · rename_i ys q
           split at hp
           · obtain ⟨es, q1, q2⟩ := Option.bind_eq_some_iff.mp q
             obtain ⟨v, rfl, r1⟩ := r.one_of
             simp only [Rep] at r1
             obtain ⟨a, rfl, i⟩ := r1
             obtain ⟨vs, h1, h2⟩ := lst_sq hs q1 i
             have e := strs_V h2 q2
             subst e
             exact ⟨a, ys, rfl, hK ▸ h1, by assumption, fun zs p hz1 hz2 np => by rw [sorted_is hz1 hz2]; exact hp.mk hs np (ObR.lst np (reps_strs _))⟩
           · exact hp.elim
         · exact hp.elim)
  | .min => by
    refine CallR.imp (call_min2 hc) fun xs H Q ⟨ι, s, ds, hs, r, hp⟩ => ?_
    unfold bltD at hp
    split at hp <;> first
      | (exact hp.elim; done)
      | contradiction
      | (obtain ⟨v, w, rfl, r1, r2⟩ := r.two_of
         exact ⟨_, _, by rw [r1.int_of, r2.int_of], hp.val hs (rep_int _)⟩)
  | .max => by
    refine CallR.imp (call_max2 hc) fun xs H Q ⟨ι, s, ds, hs, r, hp⟩ => ?_
    unfold bltD at hp
    split at hp <;> first
      | (exact hp.elim; done)
      | contradiction
      | (obtain ⟨v, w, rfl, r1, r2⟩ := r.two_of
         exact ⟨_, _, by rw [r1.int_of, r2.int_of], hp.val hs (rep_int _)⟩)
  | .tuple => by
    refine CallR.imp (call_tuple_of (X := X)) fun xs H Q ⟨ι, s, ds, hs, r, hp⟩ => ?_
    match ds, r, hp with
    | [x], r, hp =>
      obtain ⟨v, rfl, r1⟩ := r.one_of
      simp only [bltD] at hp
      split at hp
      · rename_i es q
        obtain ⟨a, vs, rfl, h1, h2⟩ := seq_sq hs q r1
        refine ⟨a, vs, rfl, ?_⟩
        rcases h1 with h1 | h1
        · exact .inl ⟨hK ▸ h1, fun p np => hp.tup hs np h2⟩
        · exact .inr ⟨hK ▸ h1.sq, hp.val hs (by simp only [Rep]; exact ⟨a, vs, rfl, h1, h2⟩)⟩
      · exact hp.elim
    | [], r, hp => exact (show False from hp).elim
    | _ :: _ :: _, r, hp => exact (show False from by unfold bltD at hp; split at hp <;> simp_all [Post]).elim

/-! ### methods -/
def mfName : Mf → Str
  | .append => "append" | .join => "join" | .clear => "clear" | .get => "get" | .insert => "insert" | .pop => "pop" | .extend => "extend"
def miName : Mi → Str
  | .lappend => "append" | .sjoin => "join" | .lclear => "clear" | .dclear => "clear" | .dget => "get" | .linsert => "insert" | .lpop => "pop" | .lextend => "extend" | .dpop => "pop"
def miTy : Mi → String
  | .lappend => "list" | .sjoin => "str" | .lclear => "list" | .dclear => "dict" | .dget => "dict" | .linsert => "list" | .lpop => "list" | .lextend => "list" | .dpop => "dict"
def miId : Mi → String
  | .lappend => "list.append" | .sjoin => "str.join" | .lclear => "list.clear" | .dclear => "dict.clear" | .dget => "dict.get" | .linsert => "list.insert" | .lpop => "list.pop" | .lextend => "list.extend" | .dpop => "dict.pop"
def rMeth (U : Su) (m : Mi) : V → List V → Hp → VK → Prop := fun x xs H Q => ∃ ι s d ds, RelS U ι s H ∧ Rep U.K ι H d x ∧ Reps U.K ι H ds xs ∧ PostP U ι H (mtD m d ds s) Q
theorem MtR.imp {id : String} {r r' : V → List V → Hp → VK → Prop} (h : MtR X id r) (i : ∀ x xs H Q, r' x xs H Q → r x xs H Q) : MtR X id r' :=
  fun pins s σ H x xs v us Q I rx rs q => h pins s σ H x xs v us Q I rx rs (i _ _ _ _ q)
/-- a list in the store is changed -/
theorem lst_put {ι : List Addr} {H : Hp} {s : S} {n : Nat} {a : Addr} {ds es : List D} {vs ws : List V} (hs : RelS U ι s H) (e : s[n]? = some (.lst ds)) (i : ι[n]? = some a) (h1 : H a = some (.lst vs)) (r : Reps U.K ι H es ws) :
    RelS U ι (s.set n (.lst es)) (upd H a (.lst ws)) ∧ Go ι H ι (upd H a (.lst ws)) := by
  have kp : Kept H (upd H a (.lst ws)) := fun b xs z st => by
    rw [upd_ne (fun w => by rw [w, h1] at z; cases z; exact st)]; exact z
  exact hs.put (by intro _ z; cases z) (o' := .lst es) (u := .lst ws) e i ⟨_, upd_same, r.mono (Ext.refl _) kp⟩
theorem dct_put {ι : List Addr} {H : Hp} {s : S} {n : Nat} {a : Addr} {ds es : List (Key × D)} {vs ws : List (Key × V)} (hs : RelS U ι s H) (e : s[n]? = some (.dct ds)) (i : ι[n]? = some a) (h1 : H a = some (.dK vs)) (r : RepF U.K ι H es ws) :
    RelS U ι (s.set n (.dct es)) (upd H a (.dK ws)) ∧ Go ι H ι (upd H a (.dK ws)) := by
  have kp : Kept H (upd H a (.dK ws)) := fun b xs z st => by
    rw [upd_ne (fun w => by rw [w, h1] at z; cases z; exact st)]; exact z
  exact hs.put (by intro _ z; cases z) (o' := .dct es) (u := .dK ws) e i ⟨_, upd_same, r.mono (Ext.refl _) kp⟩
theorem Reps.zero_of {K : PySem.W.Frag} {ι : List Addr} {H : Hp} {xs : List V} (r : Reps K ι H [] xs) : xs = [] := by simpa only [Reps] using r
theorem Reps.dropLast {K : PySem.W.Frag} {ι : List Addr} {H : Hp} {ds : List D} {vs : List V} (h : Reps K ι H ds vs) : Reps K ι H ds.dropLast vs.dropLast := by
  rw [List.dropLast_eq_take, List.dropLast_eq_take, h.length]
  exact h.take _
theorem mt_dclear : MtR X "dict.clear" (fun x xs H Q => ∃ a kvs, x = .ref a ∧ xs = [] ∧ H a = some (.dK kvs) ∧ Q .non (upd H a (.dK []))) := by
  intro pins s σ H x xs v us Q I rx rs ⟨a, kvs, ex, exs, e, q⟩
  subst ex exs
  cases rx
  cases rs
  exact d_clear I e fun s' I' => ⟨.non, _, I', rfl, q⟩
theorem mt_dget (hu : X.A.units + 1 < cLine) : MtR X "dict.get" (fun x xs H Q => ∃ a kvs k, x = .ref a ∧ H a = some (.dK kvs) ∧ ((xs = [kV k] ∧ Q ((valV kvs k).getD .non) H) ∨ ∃ z, xs = [kV k, z] ∧ Q ((valV kvs k).getD z) H)) := by
  intro pins s σ H x xs v us Q I rx rs ⟨a, kvs, k, ex, e, q⟩
  subst ex
  cases rx
  rcases q with ⟨exs, q⟩ | ⟨z, exs, q⟩
  · subst exs
    obtain ⟨u, rfl, r1⟩ := rs.one
    exact d_get1 hu I (DGet.k e) r1 fun w' s' I' r' => ⟨_, H, I', r', q⟩
  · subst exs
    obtain ⟨u, w, rfl, r1, r2⟩ := rs.two
    exact d_get2 hu I (DGet.k e) r1 r2 fun w' s' I' r' => ⟨_, H, I', r', q⟩
theorem mt_dpop : MtR X "dict.pop" (fun x xs H Q => ∃ a kvs k v, x = .ref a ∧ xs = [kV k] ∧ H a = some (.dK kvs) ∧ valV kvs k = some v ∧ Q v (upd H a (.dK (dropK kvs k)))) := by
  intro pins s σ H x xs v us Q I rx rs ⟨a, kvs, k, z, ex, exs, e, hz, q⟩
  subst ex exs
  cases rx
  obtain ⟨u, rfl, r1⟩ := rs.one
  exact d_pop (more := []) I e r1 hz (.inl rfl) fun w' s' I' r' => ⟨_, _, I', r', q⟩
theorem meth_D (hK : U.K = X.K) (hu : X.A.units + 1 < cLine) : ∀ m : Mi, MtR X (miId m) (rMeth U m)
  | .lappend => by
    refine MtR.imp (mt_append (X := X)) fun x xs H Q ⟨ι, s, d, ds, hs, r1, r2, hp⟩ => ?_
    unfold mtD at hp
    split at hp <;> first
      | (exact hp.elim; done)
      | contradiction
      | (split at hp
         · rename_i es q
           split at hp
           · simp only [Rep] at r1
             obtain ⟨a, rfl, i⟩ := r1
             obtain ⟨v, rfl, h3⟩ := r2.one_of
             obtain ⟨vs, h1, h2⟩ := hs.at q i
             refine ⟨a, vs, v, rfl, rfl, h1, by rw [h2.length]; assumption, ?_⟩
             have z := lst_put hs q i h1 (h2.append (Reps.cons h3 Reps.nil))
             exact hp ι _ .non z.2 z.1 rep_non
           · exact hp.elim
         · exact hp.elim)
  | .sjoin => by
    refine MtR.imp (mt_join (X := X)) fun x xs H Q ⟨ι, s, d, ds, hs, r1, r2, hp⟩ => ?_
    unfold mtD at hp
    split at hp <;> first
      | (exact hp.elim; done)
      | contradiction
      | (split at hp
         · rename_i ys q
           simp only [Option.bind_eq_some_iff] at q
           obtain ⟨es, q1, q2⟩ := q
           split at hp
           · obtain ⟨v, rfl, h3⟩ := r2.one_of
             obtain ⟨a, vs, rfl, h1, h2⟩ := seq_sq hs q1 h3
             have e := strs_V h2 q2
             subst e
             refine ⟨_, a, ys, r1.str_of, rfl, ?_, by assumption, hp.val hs (rep_str _)⟩
             rcases h1 with h1 | h1
             · exact .inl (hK ▸ h1)
             · exact .inr (hK ▸ h1.sq)
           · exact hp.elim
         · exact hp.elim)
  | .lclear => by
    refine MtR.imp (mt_clear (X := X)) fun x xs H Q ⟨ι, s, d, ds, hs, r1, r2, hp⟩ => ?_
    unfold mtD at hp
    split at hp <;> first
      | (exact hp.elim; done)
      | contradiction
      | (split at hp
         · rename_i es q
           simp only [Rep] at r1
           obtain ⟨a, rfl, i⟩ := r1
           obtain ⟨vs, h1, h2⟩ := hs.at q i
           have z := lst_put hs q i h1 (es := []) (ws := []) Reps.nil
           exact ⟨a, vs, rfl, r2.zero_of, h1, hp ι _ .non z.2 z.1 rep_non⟩
         · exact hp.elim)
  | .dclear => by
    refine MtR.imp (mt_dclear (X := X)) fun x xs H Q ⟨ι, s, d, ds, hs, r1, r2, hp⟩ => ?_
    unfold mtD at hp
    split at hp <;> first
      | (exact hp.elim; done)
      | contradiction
      | (split at hp
         · rename_i es q
           simp only [Rep] at r1
           obtain ⟨a, rfl, i⟩ := r1
           obtain ⟨vs, h1, h2⟩ := hs.at q i
           have z := dct_put hs q i h1 (es := []) (ws := []) rfl
           exact ⟨a, vs, rfl, r2.zero_of, h1, hp ι _ .non z.2 z.1 rep_non⟩
         · exact hp.elim)
  | .dget => by
    refine MtR.imp (mt_dget (X := X) hu) fun x xs H Q ⟨ι, s, d, ds, hs, r1, r2, hp⟩ => ?_
    unfold mtD at hp
    split at hp <;> first
      | (exact hp.elim; done)
      | contradiction
      | (split at hp
         · rename_i kvs q
           split at hp
           · rename_i k ek
             simp only [Rep] at r1
             obtain ⟨a, rfl, i⟩ := r1
             obtain ⟨vs, h1, h2⟩ := hs.at q i
             first
               | (obtain ⟨v, rfl, h3⟩ := r2.one_of
                  refine ⟨a, vs, k, rfl, h1, .inl ⟨by rw [rep_key ek h3], ?_⟩⟩
                  rcases h2.get (k := k) with ⟨g1, g2⟩ | ⟨d', v', g1, g2, g3⟩
                  · rw [g1] at hp; rw [g2]; exact hp.val hs rep_non
                  · rw [g1] at hp; rw [g2]; exact hp.val hs g3)
               | (obtain ⟨v, w, rfl, h3, h4⟩ := r2.two_of
                  refine ⟨a, vs, k, rfl, h1, .inr ⟨w, by rw [rep_key ek h3], ?_⟩⟩
                  rcases h2.get (k := k) with ⟨g1, g2⟩ | ⟨d', v', g1, g2, g3⟩
                  · rw [g1] at hp; rw [g2]; exact hp.val hs h4
                  · rw [g1] at hp; rw [g2]; exact hp.val hs g3)
           · exact hp.elim
         · exact hp.elim)
  | .linsert => by
    refine MtR.imp (mt_insert (X := X)) fun x xs H Q ⟨ι, s, d, ds, hs, r1, r2, hp⟩ => ?_
    unfold mtD at hp
    split at hp <;> first
      | (exact hp.elim; done)
      | contradiction
      | (split at hp
         · rename_i es q
           split at hp
           · rename_i hb
             simp only [Rep] at r1
             obtain ⟨a, rfl, i⟩ := r1
             obtain ⟨v, w, rfl, h3, h4⟩ := r2.two_of
             obtain ⟨vs, h1, h2⟩ := hs.at q i
             refine ⟨a, vs, _, w, rfl, by rw [h3.int_of], h1, by rw [h2.length]; exact hb.1, hb.2.1, hb.2.2, ?_⟩
             exact hp ι _ .non (lst_put hs q i h1 (((h2.take _).append (Reps.cons h4 Reps.nil)).append (h2.drop _))).2 (lst_put hs q i h1 (((h2.take _).append (Reps.cons h4 Reps.nil)).append (h2.drop _))).1 rep_non
           · exact hp.elim
         · exact hp.elim)
  | .lpop => by
    refine MtR.imp (mt_pop (X := X)) fun x xs H Q ⟨ι, s, d, ds, hs, r1, r2, hp⟩ => ?_
    unfold mtD at hp
    split at hp <;> first
      | (exact hp.elim; done)
      | contradiction
      | (split at hp
         · rename_i es q
           split at hp
           · rename_i y ey
             simp only [Rep] at r1
             obtain ⟨a, rfl, i⟩ := r1
             obtain ⟨vs, h1, h2⟩ := hs.at q i
             obtain ⟨w, e1, e2⟩ := h2.get ey
             rw [← h2.length] at e1
             refine ⟨a, vs, w, rfl, r2.zero_of, h1, e1, ?_⟩
             have z := lst_put hs q i h1 h2.dropLast
             exact hp ι _ _ z.2 z.1 (e2.mono z.2.ex z.2.tups)
           · exact hp.elim
         · exact hp.elim)
  | .dpop => by
    refine MtR.imp (mt_dpop (X := X)) fun x xs H Q ⟨ι, s, d, ds, hs, r1, r2, hp⟩ => ?_
    unfold mtD at hp
    split at hp <;> first
      | (exact hp.elim; done)
      | contradiction
      | (split at hp
         · rename_i kvs q
           split at hp
           · rename_i k ek
             split at hp
             · rename_i d2 eg
               simp only [Rep] at r1
               obtain ⟨a, rfl, i⟩ := r1
               obtain ⟨vs, h1, h2⟩ := hs.at q i
               obtain ⟨v, rfl, h3⟩ := r2.one_of
               rcases h2.get (k := k) with ⟨g1, g2⟩ | ⟨d', v', g1, g2, g3⟩
               · rw [g1] at eg; cases eg
               · rw [g1] at eg
                 cases eg
                 refine ⟨a, vs, k, v', rfl, by rw [rep_key ek h3], h1, g2, ?_⟩
                 have z := dct_put hs q i h1 (h2.drop (k := k))
                 exact hp ι _ v' z.2 z.1 (g3.mono z.2.ex z.2.tups)
             · exact hp.elim
           · exact hp.elim
         · exact hp.elim)
  | .lextend => by
    refine MtR.imp (mt_extend (X := X)) fun x xs H Q ⟨ι, s, d, ds, hs, r1, r2, hp⟩ => ?_
    unfold mtD at hp
    split at hp <;> first
      | (exact hp.elim; done)
      | contradiction
      | (split at hp
         · rename_i es zs q q2
           split at hp
           · simp only [Rep] at r1
             obtain ⟨a, rfl, i⟩ := r1
             obtain ⟨v, rfl, h3⟩ := r2.one_of
             simp only [Rep] at h3
             obtain ⟨b, rfl, i2⟩ := h3
             obtain ⟨vs, h1, h2⟩ := hs.at q i
             obtain ⟨ws, g1, g2⟩ := hs.at q2 i2
             refine ⟨a, b, vs, ws, rfl, rfl, h1, g1, by rw [h2.length, g2.length]; assumption, ?_⟩
             have z := lst_put hs q i h1 (h2.append g2)
             exact hp ι _ .non z.2 z.1 rep_non
           · exact hp.elim
         · exact hp.elim)
theorem mSel_ty (hK : U.K = X.K) {ι : List Addr} {s : S} {H : Hp} (hs : RelS U ι s H) {m : Mf} {i : Mi} {d : D} {x : V} (r : Rep U.K ι H d x) (h : mSel m d s = some i) : miName i = mfName m ∧ tyV X.K (miTy i) x H := by
  cases d <;> simp only [mSel] at h <;> first
    | (cases h; done)
    | (cases r.str_of
       cases m <;> simp only [mSelS] at h <;> first
         | (cases h; done)
         | (cases h; exact ⟨rfl, rfl⟩))
    | (simp only [Rep] at r
       obtain ⟨a, rfl, j⟩ := r
       split at h
       · rename_i q
         obtain ⟨vs, h1, h2⟩ := hs.at q j
         cases m <;> simp only [mSelL] at h <;> first
           | (cases h; done)
           | (cases h; exact ⟨rfl, .inl ⟨rfl, vs, SqL.of h1⟩⟩)
       · rename_i q
         obtain ⟨vs, h1, h2⟩ := hs.at q j
         cases m <;> simp only [mSelD] at h <;> first
           | (cases h; done)
           | (cases h; exact ⟨rfl, .inr (.inr (.inl ⟨rfl, .inl ⟨vs, h1⟩⟩))⟩)
       · cases h)

/-! ### isinstance -/
def tyName : Ty → String
  | .int => "int" | .bool => "bool" | .str => "str" | .list => "list" | .tuple => "tuple" | .dict => "dict"
theorem isi_D {K : PySem.W.Frag} (hK : U.K = K) {ι : List Addr} {s : S} {H : Hp} (hs : RelS U ι s H) {t : Ty} {d : D} {x : V} {b : Bool} {s' : S} (r : Rep U.K ι H d x) (h : isiD t d s = .ok b s') :
    s' = s ∧ ∃ tv, TyX K H x tv ∧ PySem.W.kitOne K tv (.type (tyName t)) = some b := by
  cases d with
  | non => cases r.non_of; cases t <;> simp only [isiD, R.ok.injEq] at h <;> obtain ⟨rfl, rfl⟩ := h <;> exact ⟨rfl, _, .base .non, kit_ty (by decide +kernel)⟩
  | bl _ => cases r.bl_of; cases t <;> simp only [isiD, R.ok.injEq] at h <;> obtain ⟨rfl, rfl⟩ := h <;> exact ⟨rfl, _, .base (.bl _), kit_ty (by decide +kernel)⟩
  | int _ => cases r.int_of; cases t <;> simp only [isiD, R.ok.injEq] at h <;> obtain ⟨rfl, rfl⟩ := h <;> exact ⟨rfl, _, .base (.int _), kit_ty (by decide +kernel)⟩
  | str _ => cases r.str_of; cases t <;> simp only [isiD, R.ok.injEq] at h <;> obtain ⟨rfl, rfl⟩ := h <;> exact ⟨rfl, _, .base (.str _), kit_ty (by decide +kernel)⟩
  | tup ds =>
    simp only [Rep] at r
    obtain ⟨a, vs, rfl, h1, h2⟩ := r
    have ty : TyX K H (.ref a) (.type "tuple") := by
      rcases h1 with h1 | ⟨o, its, n, h1, h3, _⟩
      · exact .base (.tup h1)
      · exact .kTuple (hK ▸ h1) h3
    cases t <;> simp only [isiD, R.ok.injEq] at h <;> obtain ⟨rfl, rfl⟩ := h <;> exact ⟨rfl, _, ty, kit_ty (by decide +kernel)⟩
  | flst ds =>
    simp only [Rep] at r
    obtain ⟨a, vs, rfl, h1, h2⟩ := r
    have ty : TyX K H (.ref a) (.type "list") := by
      rcases h1 with ⟨o, h1⟩ | ⟨o, its, n, h1, h3, _⟩
      · exact .base (.frz h1)
      · exact .kList (hK ▸ h1) h3
    cases t <;> simp only [isiD, R.ok.injEq] at h <;> obtain ⟨rfl, rfl⟩ := h <;> exact ⟨rfl, _, ty, kit_ty (by decide +kernel)⟩
  | ref n =>
    simp only [Rep] at r
    obtain ⟨a, rfl, i⟩ := r
    have key : s' = s ∧ ((∃ ds, s[n]? = some (.lst ds) ∧ b = t.isList) ∨ ∃ kvs, s[n]? = some (.dct kvs) ∧ b = t.isDict) := by
      cases t <;> (simp only [isiD] at h; split at h <;> first
        | (cases h; done)
        | (obtain ⟨rfl, rfl⟩ := (R.ok.injEq _ _ _ _).mp h
           first
             | exact ⟨rfl, .inl ⟨_, by assumption, rfl⟩⟩
             | exact ⟨rfl, .inr ⟨_, by assumption, rfl⟩⟩))
    obtain ⟨rfl, ⟨ds, q, rfl⟩ | ⟨kvs, q, rfl⟩⟩ := key
    · obtain ⟨vs, h1, h2⟩ := hs.at q i
      have ty : TyX K H (.ref a) (.type "list") := .base (.lst h1)
      cases t <;> exact ⟨rfl, _, ty, kit_ty (by decide +kernel)⟩
    · obtain ⟨vs, h1, h2⟩ := hs.at q i
      have ty : TyX K H (.ref a) (.type "dict") := .base (.dK h1)
      cases t <;> exact ⟨rfl, _, ty, kit_ty (by decide +kernel)⟩

/-! ### stores -/
theorem psetOr {r r' : TSet} (h : PSet X r) (h' : PSet X r') : PSet X (fun o i v H Q => r o i v H Q ∨ r' o i v H Q) :=
  fun pins s σ H o i v ov iv u Q I ro ri rv q => q.elim (h pins s σ H o i v ov iv u Q I ro ri rv) (h' pins s σ H o i v ov iv u Q I ro ri rv)
theorem set_D (hu : X.A.units + 1 < cLine) : PSet X (fun o i v H Q => ∃ ι s d1 d2 d3 s', RelS U ι s H ∧ Rep U.K ι H d1 o ∧ Rep U.K ι H d2 i ∧ Rep U.K ι H d3 v ∧ setD d1 d2 d3 s = some s' ∧ ∀ H', Go ι H ι H' → RelS U ι s' H' → Q H') := by
  intro pins s σ H o i v ov iv u Q I ro ri rv ⟨ι, st, d1, d2, d3, s', hs, r1, r2, r3, e, q⟩
  refine psetOr (set_list (X := X)) (set_dict hu) pins s σ H o i v ov iv u Q I ro ri rv ?_
  unfold setD at e
  split at e
  · rename_i n _ _ _
    simp only [Rep] at r1
    obtain ⟨a, rfl, ia⟩ := r1
    split at e
    · rename_i ds q1
      split at e
      · rename_i k
        split at e
        · rename_i j q2
          cases e
          obtain ⟨vs, h1, h2⟩ := hs.at q1 ia
          refine .inl ⟨a, vs, k, j, rfl, r2.int_of, h1, by rw [h2.length]; exact q2, ?_⟩
          have z := lst_put hs q1 ia h1 (h2.set (i := j) r3)
          exact q _ z.2 z.1
        · cases e
      · cases e
    · rename_i kvs q1
      split at e
      · rename_i k ek
        split at e
        · rename_i hl
          cases e
          obtain ⟨vs, h1, h2⟩ := hs.at q1 ia
          have z := dct_put hs q1 ia h1 (h2.put (k := k) r3)
          refine .inr ⟨a, _, rfl, ?_, q _ z.2 z.1⟩
          rw [rep_key ek r2]
          exact DPut.k h1 (by rw [h2.length]; exact hl)
        · cases e
      · cases e
    · cases e
  · cases e
end

/-! ### sources -/
def ItOk (U : Su) (ι : List Addr) (H : Hp) (src : Src) (J : It) : Prop := ∀ ι' s H', Go ι H ι' H' → RelS U ι' s H' → src.ok s →
  ∀ i : Nat, (∀ d, src.items[i]? = some d → J.go i H' ∧ ∀ x H2, J.yld i H' x H2 → Go ι' H' ι' H2 ∧ RelS U ι' s H2 ∧ Rep U.K ι' H2 d x) ∧ (src.items.length ≤ i → J.stop i H')
/-- a walk that makes nothing -/
def ItOk0 (U : Su) (ι : List Addr) (H : Hp) (src : Src) (J : It) : Prop := ∀ ι' s H', Go ι H ι' H' → RelS U ι' s H' → src.ok s →
  ∀ i : Nat, (∀ d, src.items[i]? = some d → J.go i H' ∧ ∀ x H2, J.yld i H' x H2 → H2 = H' ∧ Rep U.K ι' H' d x) ∧ (src.items.length ≤ i → J.stop i H')
section
variable {X : Cx} {U : Su} {ι : List Addr} {H : Hp} {s : S}
theorem ItOk0.ok {U : Su} {ι : List Addr} {H : Hp} {src : Src} {J : It} (h : ItOk0 U ι H src J) : ItOk U ι H src J := fun ι' s H' go hs ok i => ⟨fun d e => ⟨((h ι' s H' go hs ok i).1 d e).1, fun x H2 y => by
  obtain ⟨rfl, r⟩ := ((h ι' s H' go hs ok i).1 d e).2 x H2 y
  exact ⟨Go.refl _ _, hs, r⟩⟩, (h ι' s H' go hs ok i).2⟩
theorem it_list (hK : U.K = X.K) {n : Nat} {a : Addr} {ds : List D} (i : ι[n]? = some a) : ItOk U ι H (.lst n ds) (Itl X.K a) := by
  refine ItOk0.ok ?_
  intro ι' s' H' go hs ok k
  obtain ⟨vs, h1, h2⟩ := lst_sq hs (show lstAt s' n = some ds from ok) (go.ex.at i)
  rw [hK] at h1
  refine ⟨fun d e => ?_, fun z => ⟨vs, h1, by rw [h2.length]; exact z⟩⟩
  obtain ⟨v, g1, g2⟩ := h2.get e
  exact ⟨⟨vs, v, h1, g1⟩, fun x H2 y => ⟨y.1, by
    have := y.2 vs h1
    rw [g1] at this
    cases this
    exact g2⟩⟩
theorem it_keys {n : Nat} {a : Addr} {o : Obj} {vs : List (Key × V)} {kvs : List (Key × D)} (i : ι[n]? = some a) (h1 : H a = some (.frz o (.dK vs))) : ItOk U ι H (.dk n kvs) (Itk a o vs) := by
  refine ItOk0.ok ?_
  intro ι' s' H' go hs ok k
  obtain ⟨od, ws, h3, h4⟩ := hs.at (show s'[n]? = some (.frd kvs) from ok) (go.ex.at i)
  have h2 := go.fz _ _ _ h1
  rw [h2] at h3
  cases h3
  have key : ∀ (kvs : List (Key × D)) (vs : List (Key × V)), RepF U.K ι' H' kvs vs → vs.length = kvs.length ∧ ∀ (k : Nat) (q : Key × D), kvs[k]? = some q → ∃ v, vs[k]? = some (q.1, v) := by
    intro kvs
    induction kvs with
    | nil => intro vs h; cases h; exact ⟨rfl, fun k q e => by simp at e⟩
    | cons p kvs ih =>
      intro vs h
      obtain ⟨v, ws, rfl, _, h6⟩ := h
      obtain ⟨e1, e2⟩ := ih ws h6
      refine ⟨by simp [e1], fun k q e => ?_⟩
      cases k with
      | zero => simp at e; subst e; exact ⟨v, rfl⟩
      | succ k => simpa using e2 k q (by simpa using e)
  obtain ⟨e1, e2⟩ := key _ _ h4
  refine ⟨fun d e => ?_, fun z => ⟨h2, by rw [e1]; simpa [Src.items] using z⟩⟩
  simp only [Src.items, List.getElem?_map, Option.map_eq_some_iff] at e
  obtain ⟨q, e3, rfl⟩ := e
  obtain ⟨v, e4⟩ := e2 k q e3
  refine ⟨⟨h2, (List.getElem?_eq_some_iff.mp e4).1⟩, fun x H2 y => ⟨y.1, ?_⟩⟩
  obtain ⟨kk, v2, e5, rfl⟩ := y.2
  rw [e4] at e5
  cases e5
  cases q.1 with
  | inl i => exact rep_int _
  | inr z => exact rep_str _
theorem it_items {n : Nat} {a : Addr} {o : Obj} {vs : List (Key × V)} {kvs : List (Key × D)} (i : ι[n]? = some a) (h1 : H a = some (.frz o (.dK vs))) : ItOk U ι H (.dki n kvs) (Iti a o vs) := by
  intro ι' s' H' go hs ok k
  obtain ⟨od, ws, h3, h4⟩ := hs.at (show s'[n]? = some (.frd kvs) from ok) (go.ex.at i)
  have h2 := go.fz _ _ _ h1
  rw [h2] at h3
  cases h3
  have key : ∀ (kvs : List (Key × D)) (vs : List (Key × V)), RepF U.K ι' H' kvs vs → vs.length = kvs.length ∧ ∀ (k : Nat) (q : Key × D), kvs[k]? = some q → ∃ v, vs[k]? = some (q.1, v) ∧ Rep U.K ι' H' q.2 v := by
    intro kvs
    induction kvs with
    | nil => intro vs h; cases h; exact ⟨rfl, fun k q e => by simp at e⟩
    | cons p kvs ih =>
      intro vs h
      obtain ⟨v, ws, rfl, h5, h6⟩ := h
      obtain ⟨e1, e2⟩ := ih ws h6
      refine ⟨by simp [e1], fun k q e => ?_⟩
      cases k with
      | zero => simp at e; subst e; exact ⟨v, rfl, h5⟩
      | succ k => simpa using e2 k q (by simpa using e)
  obtain ⟨e1, e2⟩ := key _ _ h4
  refine ⟨fun d e => ?_, fun z => ⟨h2, by rw [e1]; simpa [Src.items] using z⟩⟩
  simp only [Src.items, List.getElem?_map, Option.map_eq_some_iff] at e
  obtain ⟨q, e3, rfl⟩ := e
  obtain ⟨v, e4, e6⟩ := e2 k q e3
  refine ⟨⟨h2, (List.getElem?_eq_some_iff.mp e4).1⟩, fun x H2 y => ?_⟩
  obtain ⟨T, kk, v2, e5, rfl, nT, rfl⟩ := y
  rw [e4] at e5
  cases e5
  have sm : Same H' (upd H' T (.tup [kV q.1, v])) := same_new nT
  refine ⟨Go.same sm, hs.same sm, ?_⟩
  simp only [Rep]
  exact ⟨T, _, rfl, .inl upd_same, Reps.cons (rep_dKey _) (Reps.cons (e6.mono (Ext.refl _) (Same.kept sm)) Reps.nil)⟩
theorem it_tup (hK : U.K = X.K) {a : Addr} {ds : List D} {vs : List V} (h1 : TupAt U.K H a vs) (h2 : Reps U.K ι H ds vs) : ItOk U ι H (.vals ds) (Itt X.K a) := by
  refine ItOk0.ok ?_
  intro ι' s' H' go hs ok k
  have g := h2.mono go.ex go.tups
  have g1 := (h1.kept go.tups).sq
  rw [hK] at g1
  refine ⟨fun d e => ?_, fun z => ⟨vs, g1, by rw [h2.length]; exact z⟩⟩
  obtain ⟨v, g3, g2⟩ := g.get e
  exact ⟨⟨vs, v, g1, g3⟩, fun x H2 y => ⟨y.1, by
    have := y.2 vs g1
    rw [g3] at this
    cases this
    exact g2⟩⟩
theorem it_flst (hK : U.K = X.K) {a : Addr} {ds : List D} {vs : List V} (h1 : FroAt U.K H a vs) (h2 : Reps U.K ι H ds vs) : ItOk U ι H (.vals ds) (Itl X.K a) := by
  refine ItOk0.ok ?_
  intro ι' s' H' go hs ok k
  have g := h2.mono go.ex go.tups
  have g1 := (h1.kept go.tups).sq
  rw [hK] at g1
  refine ⟨fun d e => ?_, fun z => ⟨vs, g1, by rw [h2.length]; exact z⟩⟩
  obtain ⟨v, g3, g2⟩ := g.get e
  exact ⟨⟨vs, v, g1, g3⟩, fun x H2 y => ⟨y.1, by
    have := y.2 vs g1
    rw [g3] at this
    cases this
    exact g2⟩⟩
theorem it_str {x : Str} : ItOk U ι H (.vals (chars x)) (Its x) := by
  refine ItOk0.ok ?_
  intro ι' s' H' go hs ok k
  refine ⟨fun d e => ?_, fun z => by
    have : (chars x).length ≤ k := z
    simp only [chars, List.length_map, Array.length_toList] at this
    exact this⟩
  replace e : (chars x)[k]? = some d := e
  simp only [chars, List.getElem?_map, Option.map_eq_some_iff, Array.getElem?_toList] at e
  obtain ⟨c, e, rfl⟩ := e
  refine ⟨(Array.getElem?_eq_some_iff.mp e).1, fun v H2 y => ⟨y.1, ?_⟩⟩
  obtain ⟨c', q1, rfl⟩ := y.2
  rw [e] at q1
  cases q1
  exact rep_str _
theorem it_rng {lo : Int} {n : Nat} : ItOk U ι H (.vals (rngD lo n)) (Itr lo n) := by
  refine ItOk0.ok ?_
  intro ι' s' H' go hs ok k
  refine ⟨fun d e => ?_, fun z => by
    have : (rngD lo n).length ≤ k := z
    simp only [rngD, List.length_map, List.length_range] at this
    exact this⟩
  replace e : (rngD lo n)[k]? = some d := e
  simp only [rngD, List.getElem?_map, Option.map_eq_some_iff] at e
  obtain ⟨c, e, rfl⟩ := e
  obtain ⟨e1, e2⟩ := List.getElem?_eq_some_iff.mp e
  simp at e1 e2
  subst e2
  exact ⟨e1, fun v H2 y => ⟨y.1, by rw [y.2]; exact rep_int _⟩⟩

/-! ### targets -/
def setV : List Nat → List V → L2.St → L2.St
  | i :: is, v :: vs, σ => setV is vs (σ.set i (some v))
  | _, _, σ => σ
def gT (K : PySem.W.Frag) : Tv → TG
  | .var i => gName i
  | .tup is => fun v σ H Q => ∃ a vs, v = .ref a ∧ (SqT K H a vs ∨ SqL K H a vs) ∧ vs.length = is.length ∧ Q (setV is vs σ) H
def tvIs : Tv → List Nat
  | .var i => [i]
  | .tup is => is
theorem setAll_F {ι : List Addr} {H : Hp} : ∀ {is : List Nat} {ds : List D} {vs : List V} {τ : Fr} {σ : L2.St}, (∀ i ∈ is, U.exi ≠ some i) → RelF U ι H τ σ → Reps U.K ι H ds vs → RelF U ι H (setAll is ds τ) (setV is vs σ)
  | [], ds, vs, τ, σ, hx, h, r => by simpa [setAll, setV] using h
  | i :: is, [], vs, τ, σ, hx, h, r => by simp only [Reps] at r; subst r; simpa [setAll, setV] using h
  | i :: is, d :: ds, vs, τ, σ, hx, h, r => by
    simp only [Reps] at r
    obtain ⟨v, ws, rfl, h1, h2⟩ := r
    show RelF U ι H (setAll is ds (τ.set i (some d))) (setV is ws (σ.set i (some v)))
    exact setAll_F (fun j hj => hx j (by simp [hj])) (h.set (hx i (by simp)) h1) h2
theorem wipe_set {vs : List Nat} {i : Nat} {σ : L2.St} {x : Option V} (h : i ∈ vs) : wipe (σ.set i x) vs = wipe σ vs := by
  induction vs with
  | nil => cases h
  | cons v vs ih =>
    unfold wipe
    by_cases hi : i = v
    · subst hi
      by_cases hm : i ∈ vs
      · rw [ih hm]
      · have : wipe (σ.set i x) vs = (wipe σ vs).set i x := by
          clear ih h
          induction vs with
          | nil => rfl
          | cons w ws ih2 =>
            have h1 : i ≠ w := fun z => hm (by simp [z])
            have h2 : i ∉ ws := fun z => hm (by simp [z])
            unfold wipe
            rw [ih2 h2, List.set_comm _ _ h1]
        rw [this, List.set_set]
    · have hm : i ∈ vs := by
        rcases List.mem_cons.mp h with z | z
        · exact absurd z hi
        · exact z
      rw [ih hm]
theorem wipe_wipe {σ : L2.St} : ∀ vs : List Nat, wipe (wipe σ vs) vs = wipe σ vs
  | [] => rfl
  | v :: vs => by
    show wipe ((wipe σ vs).set v none) (v :: vs) = (wipe σ vs).set v none
    rw [wipe_set (List.mem_cons_self)]
    show (wipe (wipe σ vs) vs).set v none = _
    rw [wipe_wipe vs]
theorem wipe_setV {vs : List Nat} : ∀ {is : List Nat} {xs : List V} {σ : L2.St}, (∀ i ∈ is, i ∈ vs) → wipe (setV is xs σ) vs = wipe σ vs
  | [], xs, σ, h => by simp [setV]
  | i :: is, [], σ, h => by simp [setV]
  | i :: is, x :: xs, σ, h => by
    unfold setV
    rw [wipe_setV fun j hj => h j (by simp [hj])]
    exact wipe_set (h i (by simp))
/-- the value handed to a target -/
theorem gT_ok {ι : List Addr} {H : Hp} {st : S} (hK : U.K = X.K) (hs : RelS U ι st H) {t : Tv} (hx : ∀ i ∈ tvIs t, U.exi ≠ some i) {d : D} {v : V} {τ τ' : Fr} {σ : L2.St} {Q : L2.St → Hp → Prop} (hf : RelF U ι H τ σ) (r : Rep U.K ι H d v) (e : asgV t d st τ = some τ')
    (h : ∀ σ', RelF U ι H τ' σ' → (∀ vs, (∀ i ∈ tvIs t, i ∈ vs) → wipe σ' vs = wipe σ vs) → Q σ' H) : gT X.K t v σ H Q := by
  cases t with
  | var i =>
    cases e
    exact h _ (hf.set (hx i (by simp [tvIs])) r) fun vs hv => wipe_set (hv i (by simp [tvIs]))
  | tup is =>
    cases d <;> simp only [asgV] at e <;> first
      | (cases e; done)
      | (split at e
         · rename_i hl
           cases e
           simp only [Rep] at r
           obtain ⟨a, vs, rfl, h1, h2⟩ := r
           exact ⟨a, vs, rfl, .inl (hK ▸ h1.sq), by rw [h2.length, hl], h _ (setAll_F hx hf h2) fun ws hw => wipe_setV hw⟩
         · cases e)
      | (split at e
         · rename_i ds q
           split at e
           · rename_i hl
             cases e
             simp only [Rep] at r
             obtain ⟨a, rfl, j⟩ := r
             obtain ⟨vs, h1, h2⟩ := lst_sq hs q j
             exact ⟨a, vs, rfl, .inr (hK ▸ h1), by rw [h2.length, hl], h _ (setAll_F hx hf h2) fun ws hw => wipe_setV hw⟩
           · cases e
         · cases e)
theorem wipeF_F {ι : List Addr} {H : Hp} {τ : Fr} {σ : L2.St} (hx : U.exi = none) (h : RelF U ι H τ σ) : ∀ vs, RelF U ι H (wipeF τ vs) (wipe σ vs)
  | [] => h
  | v :: vs => by
    have g := wipeF_F hx h vs
    unfold wipeF wipe
    refine ⟨by simp [g.1], fun i d e => ?_, fun i hi => by rw [hx] at hi; cases hi⟩
    by_cases hi : v = i
    · subst hi
      have hl : v < (wipeF τ vs).length := by have := (List.getElem?_eq_some_iff.mp e).1; simpa using this
      rw [List.getElem?_set_self hl] at e
      cases e
    · rw [List.getElem?_set_ne hi] at e ⊢
      exact g.2.1 i d e
end
end G

set_option Elab.async false
set_option linter.all false
set_option maxRecDepth 100000
set_option autoImplicit false
set_option maxHeartbeats 1000000
/-! G5: which expression of the text is which plain expression; expressions do what the plain ones do. -/
namespace G
open PySem PySem.Spec PyProof.Rows L2

/-! ### the readings by plain runs -/
def rdE (U : Su) (W : WX) (m : Fr → S → R D) : TE := fun σ H Q => ∃ ι s τ, RelS U ι s H ∧ RelF U ι H τ σ ∧ Post U (RD U) W σ ι H (m τ s) Q
def rdT (U : Su) (W : WX) (m : Fr → S → R Bool) : TT := fun σ H Q => ∃ ι s τ, RelS U ι s H ∧ RelF U ι H τ σ ∧ Post U RB W σ ι H (m τ s) Q
def rdA (U : Su) (W : WX) (m : Fr → S → R (List D)) : TA := fun σ H Q => ∃ ι s τ, RelS U ι s H ∧ RelF U ι H τ σ ∧ Post U (RDs U) W σ ι H (m τ s) Q
section
variable {U : Su} {W : WX} {σ : L2.St} {ι ι' : List Addr} {H H' : Hp}
/-- a run, then another thing that holds behind it -/
theorem Post.bindF {α β γ δ : Type} {rel : List Addr → Hp → α → β → Prop} {rel' : List Addr → Hp → γ → δ → Prop} {r : R α} {f : α → S → R γ} {τ : Fr} {Q : δ → Hp → Prop} (hf : RelF U ι H τ σ) (h : Post U rel' W σ ι H (r.bind f) Q) :
    Post U rel W σ ι H r (fun v H1 => ∃ ι1 s1 d, RelS U ι1 s1 H1 ∧ RelF U ι1 H1 τ σ ∧ rel ι1 H1 d v ∧ Go ι H ι1 H1 ∧ Post U rel' W σ ι1 H1 (f d s1) Q) :=
  (Post.bind h).imp fun v H1 ⟨ι1, s1, d, h1, h2, h3, h4⟩ => ⟨ι1, s1, d, h1, hf.mono h3.ex h3.tups, h2, h3, h4⟩
theorem Post.p {r : R D} {Q : V → Hp → Prop} (h : Post U (RD U) W σ ι H r Q) : PostP U ι H r Q := by
  cases r with
  | ok d s => exact h
  | exc c fs s => exact fun _ _ _ _ _ _ => True.intro
  | bad => exact h
theorem Post.pb {r : R Bool} {Q : Bool → Hp → Prop} (h : Post U RB W σ ι H r Q) : PostB U ι H r Q := by
  cases r with
  | ok d s => exact h
  | exc c fs s => exact fun _ _ _ _ _ _ => True.intro
  | bad => exact h
/-- a Bool run as a value -/
theorem Post.bv {W' : WX} {σ' : L2.St} {r : R Bool} {Q : V → Hp → Prop} (h : Post U (RD U) W σ ι H (r.bind fun b s => .ok (.bl b) s) Q) : Post U RB W σ ι H r (fun b H1 => Q (.bl b) H1) := by
  cases r with
  | ok d s => exact fun ι2 H2 b g q1 q2 => by rw [show b = d from q2]; exact h ι2 H2 (.bl d) g q1 (rep_bl _)
  | exc c fs s => exact h
  | bad => exact h
theorem Post.vb {r : R Bool} {Q : Bool → Hp → Prop} (h : Post U RB W σ ι H r Q) : PostP U ι H (r.bind fun b s => .ok (.bl b) s) (fun x H1 => ∃ k, x = .bl k ∧ Q k H1) := by
  cases r with
  | ok d s => exact fun ι2 H2 x g q1 q2 => ⟨d, q2.bl_of, h ι2 H2 d g q1 rfl⟩
  | exc c fs s => exact fun _ _ _ _ _ _ => True.intro
  | bad => exact h
theorem Post.calm {α β : Type} {rel : List Addr → Hp → α → β → Prop} {W' : WX} {σ' : L2.St} {r : R α} {Q : β → Hp → Prop} (h : Post U rel W σ ι H r.calm Q) : Post U rel W' σ' ι H r Q := by
  cases r with
  | ok d s => exact h
  | exc c fs s => exact False.elim h
  | bad => exact h
end
theorem _root_.L2.PE.imp {X : Cx} {e : Expr} {t t' : TE} (h : PE X e t) (i : ∀ σ H Q, t' σ H Q → t σ H Q) : PE X e t' := ⟨fun pins s σ H Q I q => h.run pins s σ H Q I (i _ _ _ q)⟩
theorem _root_.L2.PT.imp {X : Cx} {e : Expr} {t t' : TT} (h : PT X e t) (i : ∀ σ H Q, t' σ H Q → t σ H Q) : PT X e t' := ⟨fun pins s σ H Q I q => h.run pins s σ H Q I (i _ _ _ q)⟩
theorem _root_.L2.PW.imp {X : Cx} {e : Expr} {t t' : TT} (h : PW X e t) (i : ∀ σ H Q, t' σ H Q → t σ H Q) : PW X e t' := ⟨fun wh pins s σ H Q I q => h.run wh pins s σ H Q I (i _ _ _ q)⟩
theorem _root_.L2.PA.imp {X : Cx} {e : List Expr} {t t' : TA} (h : PA X e t) (i : ∀ σ H Q, t' σ H Q → t σ H Q) : PA X e t' := ⟨fun p pins s σ H Q I q => h.run p pins s σ H Q I (i _ _ _ q)⟩
theorem _root_.L2.PI.imp {X : Cx} {tg e : Expr} {t t' : TI} (h : PI X tg e t) (i : ∀ σ H Q, t' σ H Q → t σ H Q) : PI X tg e t' := ⟨fun pins s σ H Q I q => h.run pins s σ H Q I (i _ _ _ q)⟩
theorem _root_.L2.PI.or {X : Cx} {tg e : Expr} {t t' : TI} (h : PI X tg e t) (h' : PI X tg e t') : PI X tg e (fun σ H R => t σ H R ∨ t' σ H R) :=
  ⟨fun pins s σ H Q I q => q.elim (h.run pins s σ H Q I) (h'.run pins s σ H Q I)⟩

/-! ### the check -/
structure Ck where
  N : List Str
  fn : List (Nat × Str)
  gn : List (Nat × Str)
  cls : List Str
  ecl : List Str
  calm : Bool
  exi : Option Nat
def visB (sc : Scope) (x : Str) : Bool := match sc.names.lookup x with
  | some .local => true | some .cell => true | some .free => true | _ => false
def locB (sc : Scope) (x : Str) : Bool := match sc.names.lookup x with
  | some .local => true | some .cell => true | _ => false
def glB (sc : Scope) (x : Str) : Bool := match sc.names.lookup x with
  | some .globalImplicit => true | _ => false
def nmB (x : Str) : Bool := !(x == ("__debug__" : Str)) && !(x == ("__classdict__" : Str)) && !decide (x = "__name__")
theorem visB_ok {sc : Scope} {x : Str} (h : visB sc x = true) : Vis sc x := by
  unfold visB at h
  split at h <;> first
    | exact .inl (by assumption)
    | exact .inr (.inl (by assumption))
    | exact .inr (.inr (by assumption))
    | cases h
theorem locB_ok {sc : Scope} {x : Str} (h : locB sc x = true) : Loc sc x := by
  unfold locB at h
  split at h <;> first
    | exact .inl (by assumption)
    | exact .inr (by assumption)
    | cases h
theorem glB_ok {X : Cx} {x : Str} (h : glB X.env.scope x = true) : Gl X x := by
  unfold glB at h
  split at h
  · assumption
  · cases h
theorem nmB_ok {x : Str} (h : nmB x = true) : (x == ("__debug__" : Str)) = false ∧ (x == ("__classdict__" : Str)) = false ∧ x ≠ "__name__" := by
  unfold nmB at h
  simp only [Bool.and_eq_true, Bool.not_eq_true', decide_eq_false_iff_not] at h
  exact ⟨h.1.1, h.1.2, h.2⟩
def notStar : Expr → Bool
  | .Starred _ _ => false
  | _ => true
theorem star_cons {e : Expr} {es : List Expr} {env : Env} (h : notStar e = true) : starEach (e :: es) env = (false, eval e env) :: starEach es env := by
  cases e <;> first | rfl | cases h
def notSlice : Expr → Bool
  | .Slice _ _ _ _ => false
  | _ => true
theorem plainIx {e : Expr} (h : notSlice e = true) : PlainIx e := by
  intro o i
  cases e <;> first | rfl | cases h
def baseB : Expr → Bool
  | .Call (.Name _ _) [] [] _ => false
  | _ => true
theorem base_ok {e : Expr} {n : Str} {env : Env} {t : Sem Value} (h : baseB e = true) : attributeBase e n env t = t := by
  unfold attributeBase
  split
  · cases h
  · rfl
def notSet : Expr → Bool
  | .Set _ _ _ => false
  | _ => true
theorem fold_ok {e : Expr} {env : Env} (h : notSet e = true) (x : Value) : foldedSetIterable e env x = pure x := by
  cases e <;> first | rfl | cases h
/-- an expression that is tested by its value -/
def byVal : Expr → Bool
  | .UnaryOp .Not _ _ => false
  | .BoolOp _ _ _ => false
  | .IfExp _ _ _ _ => false
  | .Compare _ _ _ _ => false
  | _ => true
theorem byVal_ok {e : Expr} {env : Env} (h : byVal e = true) (whole : Sem Value) : isTrue e env whole = (do let v ← whole; standAt e.pos; holding [v] (truthy v)) := by
  cases e <;> first
    | rfl
    | cases h
    | (rename_i op _ _; cases op <;> first | rfl | cases h)
def bopOf : Bop → Operator
  | .add => .Add | .sub => .Sub | .mul => .Mult | .fdiv => .FloorDiv | .mod => .Mod | .pow => .Pow
def tvOk (N : List Str) (sc : Scope) : Tv → Expr → Bool
  | .var i, x => (match x with
    | .Name n _ => decide (N[i]? = some n) && locB sc n
    | _ => false)
  | .tup is, x => (match x with
    | .Tuple xs _ _ => decide (is.length = xs.length) && (is.zip xs).all (fun p => match p.2 with
      | .Name n _ => decide (N[p.1]? = some n) && locB sc n
      | _ => false)
    | _ => false)
def cstOk : Cst → Const → Bool
  | .non, .none => true
  | .bl b, .bool b' => b == b'
  | .int i, .int j => decide (i = j)
  | .str s, .str s' => decide (s = s')
  | _, _ => false
mutual
def okE (C : Ck) : Ex → Scope → Expr → Bool
  | .nop, _, _ => false
  | .var i, sc, x => (match x with
    | .Name n _ => decide (C.N[i]? = some n) && visB sc n && nmB n
    | _ => false)
  | .cst c, _, x => (match x with
    | .Constant k _ _ => cstOk c k
    | _ => false)
  | .glob i, sc, x => (match x with
    | .Name n _ => decide (C.gn.lookup i = some n) && glB sc n && nmB n
    | _ => false)
  | .bin o a b, sc, x => (match x with
    | .BinOp l op r _ => decide (op = bopOf o) && okE C a sc l && okE C b sc r
    | _ => false)
  | .neg a, sc, x => (match x with
    | .UnaryOp .USub l _ => okE C a sc l
    | _ => false)
  | .not a, sc, x => (match x with
    | .UnaryOp .Not l _ => okE C a sc l
    | _ => false)
  | .and a b, sc, x => (match x with
    | .BoolOp .And (p :: q :: r) pos => okE C a sc p && (match r with
      | [] => okE C b sc q
      | _ :: _ => okE C b sc (.BoolOp .And (q :: r) pos))
    | _ => false)
  | .or a b, sc, x => (match x with
    | .BoolOp .Or (p :: q :: r) pos => okE C a sc p && (match r with
      | [] => okE C b sc q
      | _ :: _ => okE C b sc (.BoolOp .Or (q :: r) pos))
    | _ => false)
  | .cmp o a b, sc, x => (match x with
    | .Compare l [op] [r] _ => decide (op = copOf o) && okE C a sc l && okE C b sc r && !behindInMarks op r
    | _ => false)
  | .cmp2 o o' a b c, sc, x => (match x with
    | .Compare l [op, op'] [m, r] _ => decide (op = copOf o) && decide (op' = copOf o') && okE C a sc l && okE C b sc m && okE C c sc r && !lastMarks [op, op'] [m, r]
    | _ => false)
  | .ife c a b, sc, x => (match x with
    | .IfExp t p q _ => okE C c sc t && okE C a sc p && okE C b sc q
    | _ => false)
  | .tup es, sc, x => (match x with
    | .Tuple xs _ _ => okEs C es sc xs && decide (xs.length ≤ 1000)
    | _ => false)
  | .lst es, sc, x => (match x with
    | .List xs _ => okEs C es sc xs && decide (xs.length ≤ 1000)
    | _ => false)
  | .ix a i, sc, x => (match x with
    | .Subscript v sl _ => okE C a sc v && okE C i sc sl && notSlice sl
    | _ => false)
  | .sl a lo hi, sc, x => (match x with
    | .Subscript v (.Slice l h none _) _ => okE C a sc v && (match l with | none => lo.isNop | some l => !lo.isNop && okE C lo sc l) && (match h with | none => hi.isNop | some h => !hi.isNop && okE C hi sc h)
    | _ => false)
  | .call f es, sc, x => (match x with
    | .Call (.Name n _) ys [] _ => C.calm && decide (C.fn.lookup f = some n) && glB sc n && nmB n && okEs C es sc ys
    | _ => false)
  | .blt b es, sc, x => (match x with
    | .Call (.Name n _) (y :: ys) [] _ => C.calm && decide (n = bfName b) && glB sc n && nmB n && okEs C es sc (y :: ys)
    | _ => false)
  | .meth m o es, sc, x => (match x with
    | .Call (.Attribute v at_ apos) ys [] pos => decide (at_ = mfName m) && okE C o sc v && okEs C es sc ys && baseB v && (apos.endLine == pos.line) && decide (ys.length < 20)
    | _ => false)
  | .lrg a, sc, x => (match x with
    | .Call (.Name n _) [.Call (.Name r _) [y] [] _] [] _ => C.calm && decide (n = "list") && decide (r = "range") && glB sc n && glB sc r && notStar y && okE C a sc y
    | _ => false)
  | .lrv a, sc, x => (match x with
    | .Call (.Name n _) [.Call (.Name r _) [y] [] _] [] _ => C.calm && decide (n = "list") && decide (r = "reversed") && glB sc n && glB sc r && notStar y && okE C a sc y
    | _ => false)
  | .oeq a b, sc, x => (match x with
    | .Compare l [op] [r] _ => C.calm && decide (op = copOf .eq) && okE C a sc l && okE C b sc r && !behindInMarks op r
    | _ => false)
  | .dct, _, x => (match x with
    | .Dict [] [] _ => true
    | _ => false)
  | .fld a f, sc, x => (match x with
    | .Attribute v f' _ => C.calm && decide (f' = f) && okE C a sc v && baseB v
    | _ => false)
  | .mc m o es, sc, x => (match x with
    | .Call (.Attribute v at_ apos) ys [] pos => C.calm && decide (at_ = m) && okE C o sc v && okEs C es sc ys && baseB v && (apos.endLine == pos.line) && decide (ys.length < 20)
    | _ => false)
  | .mk c es, sc, x => (match x with
    | .Call (.Name n _) (y :: ys) [] _ => C.calm && decide (n = c) && C.cls.contains c && glB sc n && nmB n && okEs C es sc (y :: ys)
    | _ => false)
  | .isc a c, sc, x => (match x with
    | .Call (.Name n _) [y, .Name tn _] [] _ => C.calm && decide (n = "isinstance") && glB sc n && nmB n && decide (tn = c) && C.cls.contains c && glB sc tn && nmB tn && okE C a sc y && notStar y
    | _ => false)
  | .efld i f, sc, x => (match x with
    | .Attribute (.Name n _) f' _ => !C.calm && decide (f' = f) && decide (C.N[i]? = some n) && visB sc n && nmB n
    | _ => false)
  | .eis i c, sc, x => (match x with
    | .Call (.Name n _) [.Name y _, .Name tn _] [] _ => !C.calm && decide (n = "isinstance") && glB sc n && nmB n && decide (tn = c) && glB sc tn && nmB tn && decide (C.N[i]? = some y) && visB sc y && nmB y
    | _ => false)
  | .dc kx vx t k its own, sc, x => (match x with
    | .DictComp ek ev [⟨tg, it, [], asy⟩] scope _ => C.calm && decide (asy = 0) && blkC C.N sc scope own && tvOk C.N scope t tg && (tvIs t).all (fun i => (own.map (·.2)).contains i) && notSet it && okE C kx (relS scope sc) ek && okE C vx (relS scope sc) ev
      && (match k with
        | .seq => (match its with | .cons i .nil => okE C i sc it | _ => false)
        | .rng1 => (match it with
          | .Call (.Name n _) [y] [] _ => decide (n = "range") && glB sc n && okEs C its sc [y]
          | _ => false)
        | .rng2 => (match it with
          | .Call (.Name n _) [y, z] [] _ => decide (n = "range") && glB sc n && okEs C its sc [y, z]
          | _ => false)
        | .items => false)
    | _ => false)
  | .isi a t, sc, x => (match x with
    | .Call (.Name n _) [y, .Name tn _] [] _ => decide (n = "isinstance") && glB sc n && nmB n && decide (tn = Str.ofString (tyName t)) && glB sc tn && nmB tn && okE C a sc y && notStar y
    | _ => false)
  | .lc elt t k its cond own, sc, x => (match x with
    | .ListComp e [⟨tg, it, ifs, asy⟩] scope _ => C.calm && decide (asy = 0) && blkC C.N sc scope own && tvOk C.N scope t tg && (tvIs t).all (fun i => (own.map (·.2)).contains i) && notSet it && okE C elt (relS scope sc) e
      && (match ifs with | [] => cond.isNop | [i] => !cond.isNop && okE C cond (relS scope sc) i | _ => false)
      && (match k with
        | .seq => (match its with | .cons i .nil => okE C i sc it | _ => false)
        | .rng1 => (match it with
          | .Call (.Name n _) [y] [] _ => decide (n = "range") && glB sc n && okEs C its sc [y]
          | _ => false)
        | .rng2 => (match it with
          | .Call (.Name n _) [y, z] [] _ => decide (n = "range") && glB sc n && okEs C its sc [y, z]
          | _ => false)
        | .items => false)
    | _ => false)
def okEs (C : Ck) : Exs → Scope → List Expr → Bool
  | .nil, _, xs => xs.isEmpty
  | .cons e es, sc, xs => (match xs with
    | x :: xs => notStar x && okE C e sc x && okEs C es sc xs
    | [] => false)
end
def okIt (C : Ck) (k : Ik) (its : Exs) (sc : Scope) (it : Expr) : Bool := match k with
  | .seq => (match its with | .cons i .nil => okE C i sc it | _ => false)
  | .rng1 => (match it with
    | .Call (.Name n _) [y] [] _ => decide (n = "range") && glB sc n && okEs C its sc [y]
    | _ => false)
  | .rng2 => (match it with
    | .Call (.Name n _) [y, z] [] _ => decide (n = "range") && glB sc n && okEs C its sc [y, z]
    | _ => false)
  | .items => (match it with
    | .Call (.Attribute v at_ apos) [] [] pos => decide (at_ = "items") && (match its with | .cons i .nil => okE C i sc v | _ => false) && baseB v && (apos.endLine == pos.line)
    | _ => false)
end G

set_option Elab.async false
set_option linter.all false
set_option maxRecDepth 100000
set_option autoImplicit false
set_option maxHeartbeats 2000000
/-! G6: expressions do what the plain ones do. -/
namespace G
open PySem PySem.Spec PyProof.Rows L2

def blts : List Str := ["isinstance", "int", "bool", "str", "list", "tuple", "dict", "len", "abs", "range", "sorted", "min", "max", "ValueError", "reversed"]
/-- what a def keeps: the plain function's run -/
def spOf (U : Su) (m : List D → S → R D) : Sp := fun vs H Q E => ∃ ι s ds, RelS U ι s H ∧ Reps U.K ι H ds vs ∧ Post U (RD U) (fun c a _ H => E c a H) [] ι H (m ds s) Q
/-- a plain function stands at a place -/
def FnAt (X : Cx) (U : Su) (cl : CL) (i : Nat) (f : Addr) : Prop := ∃ (fd : FuncData) (ps : List Str) (k : Nat),
  FnOk X.prog X.w X.K X.mg X.base (L2.CX X.prog X.w) k f fd ps (spOf U (cl.call i)) ∧ Room (k + 1) X.A ∧ Binds X.K fd ps []
structure ClOk (X : Cx) (U : Su) (cl : CL) (c : Str) (k : Cl) : Prop where
  mg : X.mg c = some (.ref (U.cad c))
  cls : Cls X.K (U.cad c)
  na : ∀ f, k.fields.contains f = true → NoAttr X.K (U.cad c) f
  mth : ∀ m g, k.mths.lookup m = some g → ∃ f, Meth X.K (U.cad c) m f ∧ FnAt X U cl g f
  prop : ∀ m g, k.props.lookup m = some g → ∃ p f, PropOf X.K (U.cad c) m p f ∧ FnAt X U cl g f
  init : ∀ g, k.init = some g → ∃ f, Mk X.K (U.cad c) f ∧ FnAt X U cl g f
  ins : PySem.W.findIn X.K (.ref (U.cad c)) "__class__" = some (some (.builtin "object.__class__")) ∧ PySem.W.specialIn X.K (.builtin "object.__class__") "__get__" = some (some (.builtin "getset_descriptor.__get__")) ∧
    PySem.W.takesIn X.K (.builtin "object.__class__") = some true ∧ PySem.W.mroIn X.K (U.cad c) (.type "object") = some true
  one : ∀ x k2, cl.cls x = some k2 → PySem.W.kitOne X.K (.ref (U.cad x)) (.ref (U.cad c)) = some (decide (x = c))
  bt : ∀ T ∈ ["NoneType", "bool", "int", "str", "list", "tuple", "dict"], PySem.W.kitOne X.K (.type T) (.ref (U.cad c)) = some false
structure Gd (C : Ck) (U : Su) (cl : CL) (X : Cx) (W : WX) : Prop where
  hK : U.K = X.K
  hN : X.N = C.N
  nd : X.N.Nodup
  calm : C.calm = true → X.calm = true
  exi : U.exi = C.exi
  cexi : C.calm = true → C.exi = none
  hu : X.A.units + 65 < cLine
  tk : Takes X W
  po : PassesOwn (model X.prog X.w) X.A X.env X.xe
  blt : ∀ x ∈ blts, X.mg x = none
  glb : ∀ (i : Nat) (n : Str) (d : D), C.gn.lookup i = some n → cl.glob i = some d → ∃ u v, X.mg n = some u ∧ RelV v u ∧ ∀ ι H, Rep U.K ι H d v
  fns : C.calm = true → ∀ (i : Nat) (n : Str), C.fn.lookup i = some n → ∃ f, FnAt X U cl i f ∧ X.mg n = some (.ref f) ∧ PySem.W.keepIn X.K (.ref f) = true
  cls : ∀ (c : Str) (k : Cl), cl.cls c = some k → (C.calm = true → ClOk X U cl c k)
  xs : C.calm = false → (∀ (i : Nat) (n f : Str) (p p2 : Pos), C.N[i]? = some n → visB X.env.scope n = true → nmB n = true → PE X (.Attribute (.Name n p) f p2) (rdE U W (ev cl (.efld i f)).1)) ∧
    ∀ (i : Nat) (n c : Str) (p p2 p3 p4 : Pos), C.N[i]? = some n → visB X.env.scope n = true → nmB n = true → glB X.env.scope "isinstance" = true → glB X.env.scope c = true → nmB c = true →
      PE X (.Call (.Name "isinstance" p) [.Name n p2, .Name c p3] [] p4) (rdE U W (ev cl (.eis i c)).1)

section
variable {C : Ck} {U : Su} {cl : CL} {X : Cx} {W : WX} {e a b c : Expr} {pos : Pos}
/-- within a comprehension's block -/
theorem Gd.blk (g : Gd C U cl X W) (hc : C.calm = true) (s : Shared) (H : Hp) (scope : Scope) (cenv : Env) (fp : List Addr) : Gd C U cl (X.blk s H scope cenv fp) (fun _ _ _ _ => False) where
  hK := g.hK
  hN := g.hN
  nd := g.nd
  calm := g.calm
  exi := g.exi
  cexi := g.cexi
  hu := g.hu
  tk := fun u s' x => by
    obtain ⟨_, _, _, _, _, _, _, _, _, _, _, _, _, _, _, _, z⟩ := x
    exact z
  po := PassesOwn.never
  blt := g.blt
  glb := g.glb
  fns := g.fns
  cls := fun c k h hc => let z := g.cls c k h hc; ⟨z.mg, z.cls, z.na, z.mth, z.prop, z.init, z.ins, z.one, z.bt⟩
  xs := fun z => by rw [hc] at z; cases z
theorem Gd.noexi (g : Gd C U cl X W) (hc : C.calm = true) : U.exi = none := by rw [g.exi, g.cexi hc]
theorem Gd.rd2 {β : Type} {ma mb : Fr → S → R D} {f : D → D → S → R β} {γ : Type} {rel : List Addr → Hp → β → γ → Prop} {σ : L2.St} {H : Hp} {Q : γ → Hp → Prop} {ι : List Addr} {s : S} {τ : Fr} (hs : RelS U ι s H) (hf : RelF U ι H τ σ)
    (h : Post U rel W σ ι H ((ma τ s).bind fun x s => (mb τ s).bind fun y s => f x y s) Q) :
    rdE U W ma σ H fun x H1 => rdE U W mb σ H1 fun y H2 => ∃ ι s d e, RelS U ι s H2 ∧ RelF U ι H2 τ σ ∧ Rep U.K ι H2 d x ∧ Rep U.K ι H2 e y ∧ Post U rel W σ ι H2 (f d e s) Q := by
  refine ⟨ι, s, τ, hs, hf, (Post.bindF (rel := RD U) hf h).imp fun x H1 ⟨ι1, s1, d, h1, h2, h3, h4, h5⟩ => ?_⟩
  exact ⟨ι1, s1, τ, h1, h2, (Post.bindF (rel := RD U) h2 h5).imp fun y H2 ⟨ι2, s2, e, g1, g2, g3, g4, g5⟩ => ⟨ι2, s2, d, e, g1, g2, h3.mono g4.ex g4.tups, g3, g5⟩⟩
/-- a test by the value -/
theorem pt_plain {v : Fr → S → R D} (hK : U.K = X.K) (hv : byVal e = true) (h : PE X e (rdE U W v)) : PT X e (rdT U W (plainT v).2) := by
  refine (pt_truth h (byVal_ok hv)).imp fun σ H Q ⟨ι, s, τ, hs, hf, hp⟩ => ?_
  refine ⟨ι, s, τ, hs, hf, (Post.bindF (rel := RD U) hf hp).imp fun x H1 ⟨ι1, s1, d, h1, h2, h3, h4, h5⟩ => ?_⟩
  exact tru_D hK h1 h3 h5.pb

theorem s_var (g : Gd C U cl X W) {i : Nat} {n : Str} (h : (decide (C.N[i]? = some n) && visB X.env.scope n && nmB n) = true) : PE X (.Name n pos) (rdE U W (ev cl (.var i)).1) := by
  simp only [Bool.and_eq_true, decide_eq_true_eq] at h
  refine (pe_var (i := i) (by rw [g.hN]; exact h.1.1) (visB_ok h.1.2) (nmB_ok h.2).1 (nmB_ok h.2).2.1).imp fun σ H Q ⟨ι, s, τ, hs, hf, hp⟩ => ?_
  have hp : Post U (RD U) W σ ι H (match τ[i]? with | some (some d) => .ok d s | _ => .bad) Q := hp
  split at hp
  · rename_i d q
    obtain ⟨v, h1, h2⟩ := hf.2.1 i d q
    exact ⟨v, h1, hp.p.val hs h2⟩
  · exact hp.elim
theorem s_cst {k : Cst} {x : Const} {j : Nat} (h : cstOk k x = true) :
    PE X (.Constant x j pos) (rdE U W (ev cl (.cst k)).1) := by
  have key : ∃ v, (∀ ι H, Rep U.K ι H k.d v) ∧ PE X (.Constant x j pos) (tC v) := by
    cases k <;> cases x <;> first
      | exact (Bool.false_ne_true h).elim
      | exact ⟨_, fun _ _ => rep_non, pe_non⟩
      | (cases (beq_iff_eq.mp h); exact ⟨_, fun _ _ => rep_bl _, pe_bl⟩)
      | (cases (of_decide_eq_true h); exact ⟨_, fun _ _ => rep_int _, pe_int⟩)
      | (cases (of_decide_eq_true h); exact ⟨_, fun _ _ => rep_str _, pe_str⟩)
  obtain ⟨v, h1, h2⟩ := key
  exact h2.imp fun σ H Q ⟨ι, s, τ, hs, hf, hp⟩ => hp.p.val hs (h1 _ _)
theorem s_glob (g : Gd C U cl X W) {i : Nat} {n : Str} (h : (decide (C.gn.lookup i = some n) && glB X.env.scope n && nmB n) = true) : PE X (.Name n pos) (rdE U W (ev cl (.glob i)).1) := by
  simp only [Bool.and_eq_true, decide_eq_true_eq] at h
  refine ⟨fun pins s σ H Q I ⟨ι, st, τ, hs, hf, hp⟩ => ?_⟩
  have hp : Post U (RD U) W σ ι H (match cl.glob i with | some d => .ok d st | none => .bad) Q := hp
  split at hp
  · rename_i d q
    obtain ⟨u, v, h1, h2, h3⟩ := g.glb i n d h.1.1 q
    exact (pe_glob (glB_ok h.1.2) h1 h2 (nmB_ok h.2).1).run pins s σ H Q I (hp.p.val hs (h3 _ _))
  · exact hp.elim
theorem s_bin (g : Gd C U cl X W) {o : Bop} {x y : Ex} (ha : PE X a (rdE U W (ev cl x).1)) (hb : PE X b (rdE U W (ev cl y).1)) : PE X (.BinOp a (bopOf o) b pos) (rdE U W (ev cl (.bin o x y)).1) := by
  have ho : OpR X (binaryOp (bopOf o)) (rOp U (binD o)) := by
    have := op_binD (U := U) g.hK o
    cases o <;> exact this
  refine (pe_op ho ha hb).imp fun σ H Q ⟨ι, s, τ, hs, hf, hp⟩ => ?_
  obtain ⟨ι, s, τ, h1, h2, h3⟩ := Gd.rd2 hs hf hp
  exact ⟨ι, s, τ, h1, h2, h3.imp fun v H1 ⟨ι, s, τ, h1, h2, h3⟩ => ⟨ι, s, τ, h1, h2, h3.imp fun v H1 ⟨ι, s, d, e, q1, _, q2, q3, q4⟩ => ⟨ι, s, d, e, q1, q2, q3, q4.p⟩⟩⟩
theorem s_neg {x : Ex} (ha : PE X a (rdE U W (ev cl x).1)) : PE X (.UnaryOp .USub a pos) (rdE U W (ev cl (.neg x)).1) := by
  refine (pe_un (un_negD (U := U)) ha).imp fun σ H Q ⟨ι, s, τ, hs, hf, hp⟩ => ?_
  exact ⟨ι, s, τ, hs, hf, (Post.bindF (rel := RD U) hf hp).imp fun v H1 ⟨ι, s, d, q1, _, q2, _, q4⟩ => ⟨ι, s, d, q1, q2, q4.p⟩⟩
theorem s_not {x : Ex} (ha : PE X a (rdE U W (ev cl x).1)) : PE X (.UnaryOp .Not a pos) (rdE U W (ev cl (.not x)).1) := by
  refine (pe_not ha).imp fun σ H Q ⟨ι, s, τ, hs, hf, hp⟩ => ?_
  refine ⟨ι, s, τ, hs, hf, (Post.bindF (rel := RD U) hf hp).imp fun v H1 ⟨ι, s, d, q1, _, q2, _, q4⟩ => ?_⟩
  cases d with
  | bl k => exact ⟨k, q2.bl_of, q4.p.val q1 (rep_bl _)⟩
  | _ => exact q4.elim
theorem t_not {x : Ex} (ha : PT X a (rdT U W (ev cl x).2)) : PT X (.UnaryOp .Not a pos) (rdT U W (ev cl (.not x)).2) := by
  refine (pt_not ha).imp fun σ H Q ⟨ι, s, τ, hs, hf, hp⟩ => ?_
  exact ⟨ι, s, τ, hs, hf, (Post.bindF (rel := RB) hf hp).imp fun v H1 ⟨ι, s, d, q1, _, q2, _, q4⟩ => by rw [show v = d from q2]; exact q4.pb.val q1⟩
theorem rd_and {x y : Ex} : ∀ σ H Q, rdE U W (ev cl (.and x y)).1 σ H Q → tAndV (rdE U W (ev cl x).1) (rdE U W (ev cl y).1) σ H Q := fun σ H Q ⟨ι, s, τ, hs, hf, hp⟩ => by
  refine ⟨ι, s, τ, hs, hf, (Post.bindF (rel := RD U) hf hp).imp fun v H1 ⟨ι, s, d, q1, q0, q2, _, q4⟩ => ?_⟩
  cases d with
  | bl k =>
    refine ⟨k, q2.bl_of, ?_⟩
    cases k with
    | true => rw [if_pos rfl]; exact ⟨ι, s, τ, q1, q0, q4⟩
    | false => rw [if_neg Bool.false_ne_true]; exact q4.p.val q1 (rep_bl _)
  | _ => exact q4.elim
theorem rd_or {x y : Ex} : ∀ σ H Q, rdE U W (ev cl (.or x y)).1 σ H Q → tOrV (rdE U W (ev cl x).1) (rdE U W (ev cl y).1) σ H Q := fun σ H Q ⟨ι, s, τ, hs, hf, hp⟩ => by
  refine ⟨ι, s, τ, hs, hf, (Post.bindF (rel := RD U) hf hp).imp fun v H1 ⟨ι, s, d, q1, q0, q2, _, q4⟩ => ?_⟩
  cases d with
  | bl k =>
    refine ⟨k, q2.bl_of, ?_⟩
    cases k with
    | false => rw [if_neg Bool.false_ne_true]; exact ⟨ι, s, τ, q1, q0, q4⟩
    | true => rw [if_pos rfl]; exact q4.p.val q1 (rep_bl _)
  | _ => exact q4.elim
theorem rt_and {x y : Ex} : ∀ σ H Q, rdT U W (ev cl (.and x y)).2 σ H Q → tAnd (rdT U W (ev cl x).2) (rdT U W (ev cl y).2) σ H Q := fun σ H Q ⟨ι, s, τ, hs, hf, hp⟩ => by
  refine ⟨ι, s, τ, hs, hf, (Post.bindF (rel := RB) hf hp).imp fun v H1 ⟨ι, s, d, q1, q0, q2, _, q4⟩ => ?_⟩
  rw [show v = d from q2]
  cases d with
  | true => rw [if_pos rfl]; exact ⟨ι, s, τ, q1, q0, q4⟩
  | false => rw [if_neg Bool.false_ne_true]; exact q4.pb.val q1
theorem rt_or {x y : Ex} : ∀ σ H Q, rdT U W (ev cl (.or x y)).2 σ H Q → tOr (rdT U W (ev cl x).2) (rdT U W (ev cl y).2) σ H Q := fun σ H Q ⟨ι, s, τ, hs, hf, hp⟩ => by
  refine ⟨ι, s, τ, hs, hf, (Post.bindF (rel := RB) hf hp).imp fun v H1 ⟨ι, s, d, q1, q0, q2, _, q4⟩ => ?_⟩
  rw [show v = d from q2]
  cases d with
  | false => rw [if_neg Bool.false_ne_true]; exact ⟨ι, s, τ, q1, q0, q4⟩
  | true => rw [if_pos rfl]; exact q4.pb.val q1
theorem s_cmp (g : Gd C U cl X W) {o : Cop} {x y : Ex} (ha : PE X a (rdE U W (ev cl x).1)) (hb : PE X b (rdE U W (ev cl y).1)) (hm : behindInMarks (copOf o) b = false) : PE X (.Compare a [copOf o] [b] pos) (rdE U W (ev cl (.cmp o x y)).1) := by
  refine (pe_cmpR (op_cmpD (U := U) g.hK g.hu o) ha hb hm).imp fun σ H Q ⟨ι, s, τ, hs, hf, hp⟩ => ?_
  obtain ⟨ι, s, τ, h1, h2, h3⟩ := Gd.rd2 hs hf (Post.bv (W' := W) (σ' := σ) hp)
  refine ⟨ι, s, τ, h1, h2, h3.imp fun v H1 ⟨ι, s, τ, h1, h2, h3⟩ => ⟨ι, s, τ, h1, h2, h3.imp fun v H1 ⟨ι, s, d, e, q1, _, q2, q3, q4⟩ => ⟨ι, s, d, e, q1, q2, q3, ?_⟩⟩⟩
  exact (Post.vb q4).imp fun x H ⟨k, e, z⟩ => e ▸ z
theorem t_cmp (g : Gd C U cl X W) {o : Cop} {x y : Ex} (ha : PE X a (rdE U W (ev cl x).1)) (hb : PE X b (rdE U W (ev cl y).1)) (hm : behindInMarks (copOf o) b = false) : PT X (.Compare a [copOf o] [b] pos) (rdT U W (ev cl (.cmp o x y)).2) := by
  refine (pt_cmpR (op_cmpD (U := U) g.hK g.hu o) ha hb hm).imp fun σ H Q ⟨ι, s, τ, hs, hf, hp⟩ => ?_
  obtain ⟨ι, s, τ, h1, h2, h3⟩ := Gd.rd2 hs hf hp
  exact ⟨ι, s, τ, h1, h2, h3.imp fun v H1 ⟨ι, s, τ, h1, h2, h3⟩ => ⟨ι, s, τ, h1, h2, h3.imp fun v H1 ⟨ι, s, d, e, q1, _, q2, q3, q4⟩ => ⟨ι, s, d, e, q1, q2, q3, Post.vb q4⟩⟩⟩
theorem rd_chain (g : Gd C U cl X W) {o o' : Cop} {x y z : Ex} {σ : L2.St} {H : Hp} {Q : Bool → Hp → Prop} {Q' : V → Hp → Prop} (hQ : ∀ k H, Q k H → Q' (.bl k) H) (h : rdT U W (ev cl (.cmp2 o o' x y z)).2 σ H Q) :
    tChain (rOp U (boolR (cmpD o))) (rOp U (boolR (cmpD o'))) (rdE U W (ev cl x).1) (rdE U W (ev cl y).1) (rdE U W (ev cl z).1) σ H Q' := by
  obtain ⟨ι, s, τ, hs, hf, hp⟩ := h
  obtain ⟨ι, s, τ0, h1, h2, h3⟩ := Gd.rd2 hs hf hp
  refine ⟨ι, s, τ0, h1, h2, h3.imp fun v1 H1 ⟨ι, s, τ1, h1, h2, h3⟩ => ⟨ι, s, τ1, h1, h2, h3.imp fun v2 H2 ⟨ι, s, d, e, q1, q0, q2, q3, q4⟩ => ⟨ι, s, d, e, q1, q2, q3, ?_⟩⟩⟩
  refine (Post.vb (Post.bindF (rel := RB) q0 q4)).imp fun w H3 ⟨k, e1, ι3, s3, k', r1, r0, r2, r3, r4⟩ => ⟨k, e1, ?_⟩
  have e2 : k = k' := r2
  subst e2
  cases k with
  | false => rw [if_neg Bool.false_ne_true]; exact hQ _ _ (r4.pb.val r1)
  | true =>
    rw [if_pos rfl]
    have r4 : Post U RB W σ ι3 H3 (((ev cl z).1 τ s3).bind fun z s => cmpD o' e z s) Q := r4
    refine ⟨ι3, s3, τ, r1, r0, (Post.bindF (rel := RD U) r0 r4).imp fun v4 H4 ⟨ι4, s4, d4, p1, _, p2, p3, p4⟩ => ⟨ι4, s4, e, d4, p1, q3.mono (r3.trans p3).ex (r3.trans p3).tups, p2, ?_⟩⟩
    exact (Post.vb p4).imp fun x H ⟨k, e, z⟩ => e ▸ hQ _ _ z
theorem s_cmp2 (g : Gd C U cl X W) {o o' : Cop} {x y z : Ex} (ha : PE X a (rdE U W (ev cl x).1)) (hb : PE X b (rdE U W (ev cl y).1)) (hc : PE X c (rdE U W (ev cl z).1)) (hm : lastMarks [copOf o, copOf o'] [b, c] = false) :
    PE X (.Compare a [copOf o, copOf o'] [b, c] pos) (rdE U W (ev cl (.cmp2 o o' x y z)).1) := by
  refine (pe_chain (op_cmpD (U := U) g.hK g.hu o) (op_cmpD (U := U) g.hK g.hu o') ha hb hc hm).imp fun σ H Q ⟨ι, s, τ, hs, hf, hp⟩ => ?_
  exact rd_chain g (fun k H q => q) ⟨ι, s, τ, hs, hf, Post.bv (W' := W) (σ' := σ) hp⟩
theorem t_cmp2 (g : Gd C U cl X W) {o o' : Cop} {x y z : Ex} (ha : PE X a (rdE U W (ev cl x).1)) (hb : PE X b (rdE U W (ev cl y).1)) (hc : PE X c (rdE U W (ev cl z).1)) (hm : lastMarks [copOf o, copOf o'] [b, c] = false) :
    PT X (.Compare a [copOf o, copOf o'] [b, c] pos) (rdT U W (ev cl (.cmp2 o o' x y z)).2) := by
  refine (pt_chain (op_cmpD (U := U) g.hK g.hu o) (op_cmpD (U := U) g.hK g.hu o') ha hb hc hm).imp fun σ H Q h => ?_
  exact rd_chain g (fun k H q => ⟨k, rfl, q⟩) h
theorem s_ife {x y z : Ex} (hc : PT X c (rdT U W (ev cl x).2)) (ha : PE X a (rdE U W (ev cl y).1)) (hb : PE X b (rdE U W (ev cl z).1)) : PE X (.IfExp c a b pos) (rdE U W (ev cl (.ife x y z)).1) := by
  refine (pe_ifExp hc ha hb).imp fun σ H Q ⟨ι, s, τ, hs, hf, hp⟩ => ?_
  refine ⟨ι, s, τ, hs, hf, (Post.bindF (rel := RB) hf hp).imp fun v H1 ⟨ι, s, d, q1, q0, q2, _, q4⟩ => ?_⟩
  rw [show v = d from q2]
  cases d with
  | true => rw [if_pos rfl]; exact ⟨ι, s, τ, q1, q0, q4⟩
  | false => rw [if_neg Bool.false_ne_true]; exact ⟨ι, s, τ, q1, q0, q4⟩
theorem evs_len : ∀ {es : Exs} {τ : Fr} {s : S} {ds : List D} {s' : S}, evs cl es τ s = .ok ds s' → ds.length = es.len
  | .nil, τ, s, ds, s', h => by simp only [evs, R.ok.injEq] at h; rw [← h.1]; rfl
  | .cons e es, τ, s, ds, s', h => by
    simp only [evs] at h
    cases h1 : (ev cl e).1 τ s with
    | ok d s1 =>
      rw [h1] at h
      simp only [R.bind_ok] at h
      cases h2 : evs cl es τ s1 with
      | ok ds2 s2 =>
        rw [h2] at h
        simp only [R.bind_ok, R.ok.injEq] at h
        rw [← h.1]
        simp [Exs.len, evs_len h2]
      | exc _ _ _ => rw [h2] at h; simp at h
      | bad => rw [h2] at h; simp at h
    | exc _ _ _ => rw [h1] at h; simp at h
    | bad => rw [h1] at h; simp at h
theorem okEs_len : ∀ {es : Exs} {sc : Scope} {xs : List Expr}, okEs C es sc xs = true → es.len = xs.length
  | .nil, sc, xs, h => by cases xs <;> first | rfl | cases h
  | .cons e es, sc, [], h => by cases h
  | .cons e es, sc, x :: xs, h => by
    simp only [okEs, Bool.and_eq_true] at h
    simp [Exs.len, okEs_len h.2]
theorem okEs_star {env : Env} : ∀ {es : Exs} {xs : List Expr}, okEs C es env.scope xs = true → ∀ t ∈ starEach xs env, t.1 = false
  | .nil, xs, h => by cases xs <;> first | (intro t ht; cases ht) | cases h
  | .cons e es, [], h => by cases h
  | .cons e es, x :: xs, h => by
    simp only [okEs, Bool.and_eq_true] at h
    rw [star_cons h.1.1]
    intro t ht
    rcases List.mem_cons.mp ht with rfl | ht
    · rfl
    · exact okEs_star h.2 t ht
theorem back_plain {ts : List (Bool × Sem Value)} (h : ∀ t ∈ ts, t.1 = false) : (backTo pos ts).any (·.1) = false := by
  rw [List.any_eq_false]
  intro t ht
  unfold backTo at ht
  obtain ⟨u, hu, rfl⟩ := List.mem_map.mp ht
  rw [h u hu]
  exact Bool.false_ne_true
/-- the heap keeps a list of at most a thousand items -/
theorem small_ok {α : Type} {n : Nat} {xs : List α} (h : xs.length = n) (hn : n ≤ 1000) : xs.length ≤ sizeLine := by
  rw [h]; exact Nat.le_of_lt (small1000 hn)
/-- a list of runs, its length known -/
theorem post_evs {es : Exs} {τ : Fr} {s : S} {σ : L2.St} {ι : List Addr} {H : Hp} {β γ : Type} {rel : List Addr → Hp → β → γ → Prop} {f : List D → S → R β} {Q : γ → Hp → Prop} (hf : RelF U ι H τ σ) (h : Post U rel W σ ι H ((evs cl es τ s).bind f) Q) :
    Post U (RDs U) W σ ι H (evs cl es τ s) (fun vs H1 => ∃ ι1 s1 ds, RelS U ι1 s1 H1 ∧ RelF U ι1 H1 τ σ ∧ Reps U.K ι1 H1 ds vs ∧ vs.length = es.len ∧ Go ι H ι1 H1 ∧ Post U rel W σ ι1 H1 (f ds s1) Q) := by
  have h' := Post.bindF (rel := RDs U) hf h
  cases q : evs cl es τ s with
  | ok ds s' =>
    rw [q] at h'
    intro ι2 H2 vs g h1 h2
    obtain ⟨ι3, s3, ds3, p1, p2, p3, p4, p5⟩ := h' ι2 H2 vs g h1 h2
    rw [q] at h
    exact ⟨ι2, s', ds, h1, hf.mono g.ex g.tups, h2, by rw [Reps.length h2, evs_len q], g, Post.mono g h⟩
  | exc c fs s' => rw [q] at h'; exact h'
  | bad => rw [q] at h'; exact h'
theorem s_tup {es : Exs} {xs : List Expr} {j : Nat} (ha : PA X xs (rdA U W (evs cl es))) (hl : es.len ≤ 1000) : PE X (.Tuple xs j pos) (rdE U W (ev cl (.tup es)).1) := by
  refine (pe_tup ha).imp fun σ H Q ⟨ι, s, τ, hs, hf, hp⟩ => ?_
  refine ⟨ι, s, τ, hs, hf, (post_evs hf hp).imp fun vs H1 ⟨ι, s, ds, q1, _, q2, q3, _, q4⟩ => ⟨small_ok q3 hl, fun p np => q4.p.tup q1 np q2⟩⟩
theorem s_lst {es : Exs} {xs : List Expr} (ha : PA X xs (rdA U W (evs cl es))) (hl : es.len ≤ 1000) : PE X (.List xs pos) (rdE U W (ev cl (.lst es)).1) := by
  refine (pe_lst ha).imp fun σ H Q ⟨ι, s, τ, hs, hf, hp⟩ => ?_
  refine ⟨ι, s, τ, hs, hf, (post_evs hf hp).imp fun vs H1 ⟨ι, s, ds, q1, _, q2, q3, _, q4⟩ => ⟨small_ok q3 hl, fun p np => q4.p.mk q1 np (ObR.lst np q2)⟩⟩
theorem s_ix (g : Gd C U cl X W) {x y : Ex} (ha : PE X a (rdE U W (ev cl x).1)) (hb : PE X b (rdE U W (ev cl y).1)) (hn : notSlice b = true) : PE X (.Subscript a b pos) (rdE U W (ev cl (.ix x y)).1) := by
  refine (pe_ix (ix_D (U := U) g.hK (by have := g.hu; omega)) ha hb (plainIx hn)).imp fun σ H Q ⟨ι, s, τ, hs, hf, hp⟩ => ?_
  obtain ⟨ι, s, τ, h1, h2, h3⟩ := Gd.rd2 hs hf hp
  exact ⟨ι, s, τ, h1, h2, h3.imp fun v H1 ⟨ι, s, τ, h1, h2, h3⟩ => ⟨ι, s, τ, h1, h2, h3.imp fun v H1 ⟨ι, s, d, e, q1, _, q2, q3, q4⟩ => ⟨ι, s, d, e, q1, q2, q3, q4.p⟩⟩⟩
/-- a part of a slice -/
def tPo (U : Su) (W : WX) (m : Fr → S → R (Option Int)) : TO := fun σ H Q => ∃ ι s τ, RelS U ι s H ∧ RelF U ι H τ σ ∧ Post U (fun _ _ (x : Option Int) y => y = x) W σ ι H (m τ s) Q
theorem po_D {x : Ex} {l : Option Expr} (h : match l with | none => x.isNop = true | some l => x.isNop = false ∧ PE X l (rdE U W (ev cl x).1)) : PO X l (tPo U W (fun τ s => evPart (ev cl x).1 x.isNop τ s)) := by
  cases l with
  | none =>
    refine ⟨fun pins s σ H Q I ⟨ι, st, τ, hs, hf, hp⟩ => po_none.run pins s σ H Q I ?_⟩
    have h : x.isNop = true := h
    simp only [evPart, h, if_true] at hp
    exact hp ι H none (Go.refl _ _) hs rfl
  | some l =>
    refine ⟨fun pins s σ H Q I ⟨ι, st, τ, hs, hf, hp⟩ => (po_some h.2).run pins s σ H Q I ?_⟩
    have h1 : x.isNop = false := h.1
    simp only [evPart, h1, Bool.false_eq_true, if_false] at hp
    refine ⟨ι, st, τ, hs, hf, (Post.bindF (rel := RD U) hf hp).imp fun v H1 ⟨ι, s, d, q1, q0, q2, _, q4⟩ => ?_⟩
    cases d with
    | int i => exact ⟨i, q2.int_of, q4 ι H1 (some i) (Go.refl _ _) q1 rfl⟩
    | _ => exact q4.elim
theorem s_sl (g : Gd C U cl X W) {x lo hi : Ex} {l h : Option Expr} {p2 : Pos} (ha : PE X a (rdE U W (ev cl x).1)) (hl : PO X l (tPo U W (fun τ s => evPart (ev cl lo).1 lo.isNop τ s))) (hh : PO X h (tPo U W (fun τ s => evPart (ev cl hi).1 hi.isNop τ s))) :
    PE X (.Subscript a (.Slice l h none p2) pos) (rdE U W (ev cl (.sl x lo hi)).1) := by
  refine (pe_slice (sl_D (U := U) g.hK) ha hl hh).imp fun σ H Q ⟨ι, s, τ, hs, hf, hp⟩ => ?_
  refine ⟨ι, s, τ, hs, hf, (Post.bindF (rel := RD U) hf hp).imp fun v H1 ⟨ι, s, d, q1, q0, q2, _, q4⟩ => ?_⟩
  refine ⟨ι, s, τ, q1, q0, (Post.bindF (rel := fun _ _ (x : Option Int) y => y = x) q0 q4).imp fun l H2 ⟨ι, s, l', r1, r0, r2, r3, r4⟩ => ?_⟩
  refine ⟨ι, s, τ, r1, r0, (Post.bindF (rel := fun _ _ (x : Option Int) y => y = x) r0 r4).imp fun h H3 ⟨ι, s, h', p1, p0, p2, p3, p4⟩ => ?_⟩
  rw [show l = l' from r2, show h = h' from p2]
  exact ⟨ι, s, d, p1, q2.mono (r3.trans p3).ex (r3.trans p3).tups, p4.p⟩
theorem okEs_any {es : Exs} {xs : List Expr} {env : Env} (h : okEs C es env.scope xs = true) : (backTo pos (starEach xs env)).any (·.1) = false := back_plain (okEs_star h)
theorem okEs_cons {es : Exs} {env : Env} {y : Expr} {ys : List Expr} (h : okEs C es env.scope (y :: ys) = true) : starEach (y :: ys) env = (false, eval y env) :: starEach ys env ∧ (backTo pos (starEach ys env)).any (·.1) = false := by
  have st := okEs_star (env := env) h
  have ns : notStar y = true := by
    cases es with
    | nil => cases h
    | cons e es => simp only [okEs, Bool.and_eq_true] at h; exact h.1.1
  exact ⟨star_cons ns, back_plain fun t ht => st t (by rw [star_cons ns]; exact List.mem_cons_of_mem _ ht)⟩
/-- a plain function is called -/
theorem fn_run {pins : List (Addr × Obj)} {σ : L2.St} {H : Hp} {sh : Shared} {Q : VK} {us : List Value} {vs : List V} {i : Nat} {f : Addr} {ι : List Addr} {s : S} {ds : List D} (tk : Takes X W) (F : FnAt X U cl i f) (I : Inv X pins σ H sh) (r : Vals vs us)
    (hs : RelS U ι s H) (hr : Reps U.K ι H ds vs) (hp : Post U (RD U) W σ ι H (cl.call i ds s) Q) : wpAny (model X.prog X.w) X.A (call (.ref f) us) (EP X pins σ Q) X.xe sh := by
  obtain ⟨fd, ps, k, F, ro, b⟩ := F
  refine run_fnSD (E := WE W) F (ro.mono (Nat.le_succ _)) b .nil (passAt tk σ) I r ?_
  refine ⟨ι, s, ds, hs, by rw [List.append_nil]; exact hr, ?_⟩
  revert hp
  cases cl.call i ds s with
  | ok d s' => exact fun z => z
  | exc c fs s' => exact fun z => z
  | bad => exact fun z => z
theorem s_call (g : Gd C U cl X W) (hc : C.calm = true) {f : Nat} {n : Str} {es : Exs} {ys : List Expr} {p : Pos} (hn : C.fn.lookup f = some n) (hg : glB X.env.scope n = true) (hm : nmB n = true) (ho : okEs C es X.env.scope ys = true)
    (ha : PA X ys (rdA U W (evs cl es))) : PE X (.Call (.Name n p) ys [] pos) (rdE U W (ev cl (.call f es)).1) := by
  obtain ⟨fa, F, h2, h3⟩ := g.fns hc f n hn
  refine ⟨fun pins sh σ H Q I ⟨ι, s, τ, hs, hf, hp⟩ => ?_⟩
  refine wpAny_Call_Name_kw (ld_glob I (glB_ok hg) h2 ?_ (nmB_ok hm).1)
  have hp : Post U (RD U) W σ ι H ((evs cl es τ s).bind fun ds s => cl.call f ds s) Q := hp
  cases ys with
  | nil =>
    cases es with
    | cons _ _ => cases ho
    | nil => exact PySem.W.callWith_K0 I.kIn h3 (fn_run (us := []) (vs := []) (ds := []) g.tk F I .nil hs Reps.nil hp)
  | cons y ys =>
    obtain ⟨o1, o2⟩ := okEs_cons (pos := pos) ho
    refine PySem.W.callWith_K (h₀ := X.base) I.ok.mod.kin h3 (thn (ha.run pos pins sh σ H _ I ⟨ι, s, τ, hs, hf, post_evs hf hp⟩) fun us s1 ⟨vs, H1, I1, r, ι, s, ds, q1, _, q2, q3, _, q4⟩ => ⟨I1.kIn, ?_⟩) o1 o2
    exact fn_run g.tk F I1 r q1 q2 q4
/-! own methods, properties, instances -/
theorem callAttr {prog : Program} {w : World} {A : Around} {E : Value → Shared → Prop} {sh : Shared} {env : Env} {o : Expr} {nm : Str} {apos cp : Pos} {args : List Expr} {Q : Value → Shared → Prop} (hb : attributeBase o nm env (eval o env) = eval o env)
    (hf : ((backTo cp (starEach args env)).all (fun x => !x.1) && (backToKw cp (keywordEach [] env)).all (fun x => x.1.isSome) && decide (args.length + ([] : List Keyword).length + (if ([] : List Keyword).isEmpty then 0 else 1) < 30)) = true)
    (hl : (apos.endLine == cp.line) = true)
    (h : wpAny (model prog w) A (eval o env) (fun v s1 => ∀ pl, wpAny (model prog w) A (getMethod v nm pl) (fun fx s2 => wpAny (model prog w) A (callWith cp fx.1 fx.2 (backTo cp (starEach args env)) []) Q E s2) E s1) E sh) :
    wpAny (model prog w) A (eval (.Call (.Attribute o nm apos) args [] cp) env) Q E sh := by
  rw [arm_eval_Call, hb]
  refine wpAny_bind (wpAny_mono h (fun v s1 h1 => ?_) fun _ _ z => z)
  refine wpAny_bind (wpAny_standAt ?_)
  have hform : methodCallForm (args.length + ([] : List Keyword).length) (backTo cp (starEach args env)) (backToKw cp (keywordEach [] env)) = true := hf
  have hp : methodCallPos true o env apos cp = pure cp := by unfold methodCallPos; simp [hl]
  unfold methodCall
  rw [hform]
  refine wpAny_bind (wpAny_holding (wpAny_mono (h1 _) (fun fx s2 h2 => ?_) fun _ _ z => z))
  exact wpAny_bind (wpAny_of_eq hp h2)
theorem few_ok {es : Exs} {env : Env} {ys : List Expr} (ho : okEs C es env.scope ys = true) (hz : ys.length < 20) :
    ((backTo pos (starEach ys env)).all (fun x => !x.1) && (backToKw pos (keywordEach [] env)).all (fun x => x.1.isSome) && decide (ys.length + ([] : List Keyword).length + (if ([] : List Keyword).isEmpty then 0 else 1) < 30)) = true := by
  rw [Bool.and_eq_true, Bool.and_eq_true]
  refine ⟨⟨?_, rfl⟩, decide_eq_true (by show ys.length + 0 + 0 < 30; omega)⟩
  rw [List.all_eq_true]
  intro t ht
  unfold backTo at ht
  obtain ⟨u, hu, rfl⟩ := List.mem_map.mp ht
  rw [okEs_star ho u hu]
  rfl
theorem ins_of {s : S} {n : Nat} {c : Str} {fs : List (Str × D)} (h : insAt s n = some (c, fs)) : s[n]? = some (.ins c fs) := by
  unfold insAt at h
  split at h
  · rename_i q; cases h; exact q
  · cases h
theorem repF_none {K : PySem.W.Frag} {ι : List Addr} {H : Hp} {m : Str} : ∀ {fs : List (Str × D)} {vs : List (Str × V)}, RepF K ι H fs vs → fs.lookup m = none → vs.lookup m = none
  | [], _, h, _ => by cases (show _ = [] from h); rfl
  | p :: fs, _, h, e => by
    obtain ⟨v, ws, rfl, h1, h2⟩ := h
    obtain ⟨g, d⟩ := p
    simp only [List.lookup_cons] at e ⊢
    split at e
    · cases e
    · exact repF_none h2 e
theorem repF_some {K : PySem.W.Frag} {ι : List Addr} {H : Hp} {m : Str} {d : D} : ∀ {fs : List (Str × D)} {vs : List (Str × V)}, RepF K ι H fs vs → fs.lookup m = some d → ∃ v, vs.lookup m = some v ∧ Rep K ι H d v
  | [], _, h, e => by cases e
  | p :: fs, _, h, e => by
    obtain ⟨v, ws, rfl, h1, h2⟩ := h
    obtain ⟨g, d'⟩ := p
    simp only [List.lookup_cons] at e ⊢
    split at e
    · cases e; exact ⟨v, rfl, h1⟩
    · exact repF_some h2 e
theorem s_mc (g : Gd C U cl X W) (hc : C.calm = true) {m : Str} {x : Ex} {es : Exs} {ys : List Expr} {apos : Pos} (hb : baseB a = true) (hl : (apos.endLine == pos.line) = true) (hz : ys.length < 20) (ho : okEs C es X.env.scope ys = true)
    (ha : PE X a (rdE U W (ev cl x).1)) (hes : PA X ys (rdA U W (evs cl es))) : PE X (.Call (.Attribute a m apos) ys [] pos) (rdE U W (ev cl (.mc m x es)).1) := by
  refine ⟨fun pins sh σ H Q I ⟨ι, s, τ, hs, hf, hp⟩ => ?_⟩
  have hp : Post U (RD U) W σ ι H (((ev cl x).1 τ s).bind fun x s => match mcF cl m x s with
    | some g => (evs cl es τ s).bind fun ds s => cl.call g (x :: ds) s
    | none => .bad) Q := hp
  refine callAttr (base_ok hb) (few_ok ho hz) hl (thn (ha.run pins sh σ H _ I ⟨ι, s, τ, hs, hf, Post.bindF (rel := RD U) hf hp⟩) fun u s1 ⟨xv, H1, I1, rx, ι1, st1, d, h1, h2, h3, h4, h5⟩ pl => ?_)
  split at h5
  case h_2 => exact h5.elim
  rename_i gi q
  have key : ∃ n c fs k, d = .ref n ∧ st1[n]? = some (.ins c fs) ∧ fs.lookup m = none ∧ cl.cls c = some k ∧ k.mths.lookup m = some gi := by
    cases d <;> simp only [mcF] at q <;> first
      | (cases q; done)
      | (obtain ⟨p, q1, q2⟩ := Option.bind_eq_some_iff.mp q
         split at q2
         · rename_i q3
           obtain ⟨k, q4, q5⟩ := Option.bind_eq_some_iff.mp q2
           exact ⟨_, p.1, p.2, k, rfl, ins_of q1, Option.isNone_iff_eq_none.mp q3, q4, q5⟩
         · cases q2)
  obtain ⟨n, c, fs, k, rfl, e1, e2, e3, e4⟩ := key
  have h3' := h3
  simp only [Rep] at h3'
  obtain ⟨ad, rfl, hi⟩ := h3'
  obtain ⟨dx, vs, e5, e6⟩ := h1.at e1 hi
  have z := g.cls c k e3 hc
  obtain ⟨fa, me, F⟩ := z.mth m gi e4
  cases rx
  refine getmeth_ok I1 e5 z.cls me (repF_none e6 e2) ?_
  cases ys with
  | nil =>
    cases es with
    | cons _ _ => cases ho
    | nil => exact PySem.W.callWith_K0 (first := [.ref ad]) I1.kIn me.kp (fn_run (us := [.ref ad]) (vs := [.ref ad]) (ds := [.ref n]) g.tk F I1 (.cons rfl .nil) h1 (Reps.cons h3 Reps.nil) h5)
  | cons y ys =>
    obtain ⟨o1, o2⟩ := okEs_cons (pos := pos) ho
    refine PySem.W.callWith_K (first := [.ref ad]) (h₀ := X.base) I1.ok.mod.kin me.kp (thn (hes.run pos pins s1 σ H1 _ I1 ⟨ι1, st1, τ, h1, h2, post_evs h2 h5⟩) fun us s2 ⟨ws, H2, I2, r, ι2, st2, ds, q1, _, q2, q3, q4, q5⟩ => ⟨I2.kIn, ?_⟩) o1 o2
    exact fn_run (us := .ref ad :: us) (vs := .ref ad :: ws) (ds := .ref n :: ds) g.tk F I2 (.cons rfl r) q1 (Reps.cons (h3.mono q4.ex q4.tups) q2) q5
theorem s_fld (g : Gd C U cl X W) (hc : C.calm = true) {x : Ex} {f : Str} (hb : baseB a = true) (ha : PE X a (rdE U W (ev cl x).1)) : PE X (.Attribute a f pos) (rdE U W (ev cl (.fld x f)).1) := by
  refine ⟨fun pins sh σ H Q I ⟨ι, s, τ, hs, hf, hp⟩ => ?_⟩
  have hp : Post U (RD U) W σ ι H (((ev cl x).1 τ s).bind fun x s => fldD cl f x s) Q := hp
  refine attr_of (base_ok hb) (thn (ha.run pins sh σ H _ I ⟨ι, s, τ, hs, hf, Post.bindF (rel := RD U) hf hp⟩) fun u s1 ⟨xv, H1, I1, rx, ι1, st1, d, h1, h2, h3, h4, h5⟩ => ?_)
  cases d <;> simp only [fldD] at h5 <;> first
    | (exact h5.elim; done)
    | skip
  split at h5
  case h_2 => exact h5.elim
  rename_i n _ c fs e1
  split at h5
  case h_2 => exact h5.elim
  rename_i k e3
  have h3' := h3
  simp only [Rep] at h3'
  obtain ⟨ad, rfl, hi⟩ := h3'
  obtain ⟨dx, vs, e5, e6⟩ := h1.at (ins_of e1) hi
  have z := g.cls c k e3 hc
  cases rx
  split at h5
  · rename_i gi e4
    obtain ⟨p, fa, po, fd, ps, kk, F, ro, bi⟩ := z.prop f gi e4
    refine getprop_ok (E := E0) (dvs := []) (ds := []) I1 e5 z.cls po F ro bi .nil passL ?_
    refine ⟨ι1, st1, [.ref n], h1, Reps.cons h3 Reps.nil, ?_⟩
    revert h5
    cases cl.call gi [.ref n] st1 with
    | ok d s' => exact fun z => z
    | exc c fs s' => exact fun z => z.elim
    | bad => exact fun z => z
  · split at h5
    case isFalse => exact h5.elim
    rename_i hfc
    split at h5
    · rename_i d e7
      obtain ⟨v, e8, e9⟩ := repF_some e6 e7
      exact getattr_ok I1 e5 z.cls (z.na f hfc) e8 fun u s' I' ru => ⟨v, H1, I', ru, h5.p.val h1 e9⟩
    · exact h5.elim
theorem reps_rng {K : PySem.W.Frag} {ι : List Addr} {H : Hp} (j : Int) : Reps K ι H (rngD 0 j.toNat) (rgV 0 j) := by
  unfold rngD rgV
  rw [show (j - 0).toNat = j.toNat by simp]
  generalize List.range j.toNat = l
  induction l with
  | nil => exact Reps.nil
  | cons x l ih => exact Reps.cons (rep_int _) ih
theorem s_lrg (g : Gd C U cl X W) (hc : C.calm = true) {x : Ex} {p q r : Pos} (h1 : glB X.env.scope "list" = true) (h2 : glB X.env.scope "range" = true) (ns : notStar a = true) (ha : PE X a (rdE U W (ev cl x).1)) :
    PE X (.Call (.Name "list" p) [.Call (.Name "range" q) [a] [] r] [] pos) (rdE U W (ev cl (.lrg x)).1) := by
  refine (pe_listRg (g.calm hc) (glB_ok h1) (g.blt _ (by decide +kernel)) (prg_1 (glB_ok h2) (g.blt _ (by decide +kernel)) ha (star_cons ns)) rfl).imp fun σ H Q ⟨ι, s, τ, hs, hf, hp⟩ => ?_
  refine ⟨ι, s, τ, hs, hf, (Post.bindF (rel := RD U) hf hp).imp fun v H1 ⟨ι, s, d, q1, q0, q2, _, q4⟩ => ?_⟩
  cases d <;> simp only [lrgD] at q4 <;> first
    | (exact q4.elim; done)
    | (split at q4
       · rename_i j hb
         exact ⟨j, q2.int_of, ⟨by omega, by omega, by omega, by omega, by omega⟩, fun z nz => q4.p.mk q1 nz (ObR.lst nz (reps_rng j))⟩
       · exact q4.elim)
theorem Reps.reverse {K : PySem.W.Frag} {ι : List Addr} {H : Hp} : ∀ {ds : List D} {vs : List V}, Reps K ι H ds vs → Reps K ι H ds.reverse vs.reverse
  | [], vs, h => by simp only [Reps] at h; subst h; exact Reps.nil
  | d :: ds, vs, h => by
    simp only [Reps] at h
    obtain ⟨v, ws, rfl, h1, h2⟩ := h
    rw [List.reverse_cons, List.reverse_cons]
    exact (Reps.reverse h2).append (Reps.cons h1 Reps.nil)
theorem s_lrv (g : Gd C U cl X W) (hc : C.calm = true) {x : Ex} {p q r : Pos} (h1 : glB X.env.scope "list" = true) (h2 : glB X.env.scope "reversed" = true) (ns : notStar a = true) (ha : PE X a (rdE U W (ev cl x).1)) :
    PE X (.Call (.Name "list" p) [.Call (.Name "reversed" q) [a] [] r] [] pos) (rdE U W (ev cl (.lrv x)).1) := by
  refine (pe_listRev (g.calm hc) (glB_ok h1) (g.blt _ (by decide +kernel)) (glB_ok h2) (g.blt _ (by decide +kernel)) ha (star_cons ns) rfl).imp fun σ H Q ⟨ι, s, τ, hs, hf, hp⟩ => ?_
  refine ⟨ι, s, τ, hs, hf, (Post.bindF (rel := RD U) hf hp).imp fun v H1 ⟨ι, s, d, q1, q0, q2, _, q4⟩ => ?_⟩
  cases d <;> simp only [lrvD] at q4 <;> first
    | (exact q4.elim; done)
    | (split at q4
       · rename_i ds e
         simp only [Rep] at q2
         obtain ⟨ad, rfl, i⟩ := q2
         obtain ⟨vs, h3, h4⟩ := lst_sq q1 e i
         exact ⟨ad, vs, rfl, g.hK ▸ h3, fun z nz => q4.p.mk q1 nz (ObR.lst nz h4.reverse)⟩
       · exact q4.elim)
/-- x == y by an own __eq__ -/
theorem op_own (g : Gd C U cl X W) (hc : C.calm = true) : OpR X (compareOp .Eq) (rOp U (boolR (oeqD cl))) := by
  intro pins s σ H x y v u Q I rx ry ⟨ι, st, d, e, hs, r1, r2, hp⟩
  show wpAny (model X.prog X.w) X.A (richCompare .Eq v u) (EP X pins σ Q) X.xe s
  cases d <;> cases e <;> simp only [boolR, oeqD] at hp <;> first
    | (exact hp.elim; done)
    | skip
  rename_i m n
  simp only [Rep] at r1 r2
  obtain ⟨a1, rfl, i1⟩ := r1
  obtain ⟨a2, rfl, i2⟩ := r2
  split at hp
  case h_2 => exact hp.elim
  rename_i c fs c2 gs q1 q2
  split at hp
  case isFalse => exact hp.elim
  rename_i ec
  subst ec
  split at hp
  case h_2 => exact hp.elim
  rename_i gi q3
  obtain ⟨k, q4, q5⟩ := Option.bind_eq_some_iff.mp q3
  have z := g.cls c k q4 hc
  obtain ⟨fa, me, F⟩ := z.mth _ gi q5
  obtain ⟨dx, vs, h1, h2⟩ := hs.at (ins_of q1) i1
  obtain ⟨dy, ws, h3, h4⟩ := hs.at (ins_of q2) i2
  cases rx
  cases ry
  obtain ⟨mA, J, _⟩ := ins_get I.hok h1
  obtain ⟨mB, J', _⟩ := ins_get I.hok h3
  obtain ⟨od, J, _⟩ := J.look
  obtain ⟨od', J', _⟩ := J'.look
  obtain ⟨mm, hF⟩ := I.fr
  refine PySem.W.cmp_K (op := .Eq) (tb := .ref (U.cad c)) (by have := g.hu; omega) hF I.ok.mod.kin J J'.type (by simp [PySem.W.notFirst]) me.at_ me.fn ?_
  have hp2 : Post U (RD U) W σ ι H (cl.call gi [.ref m, .ref n] st) (fun v H' => ∃ b, v = .bl b ∧ Q v H') := by
    revert hp
    cases cl.call gi [.ref m, .ref n] st with
    | bad => exact fun z => z.elim
    | exc c' fs' s' => exact fun z => z.elim
    | ok dd s' =>
      cases dd <;> first
        | (exact fun z => z.elim)
        | (exact fun z ι' H' v' go hs' r => ⟨_, r.bl_of, z ι' H' _ go hs' r⟩)
  refine wpAny_mono (fn_run (us := [.ref a1, .ref a2]) (vs := [.ref a1, .ref a2]) (ds := [.ref m, .ref n]) g.tk F I (.cons rfl (.cons rfl .nil)) hs (Reps.cons (by simp only [Rep]; exact ⟨a1, rfl, i1⟩) (Reps.cons (by simp only [Rep]; exact ⟨a2, rfl, i2⟩) Reps.nil)) hp2) (fun r s' hq => ?_) fun _ _ x => x
  obtain ⟨xv, H', I', rz, b, rfl, hb⟩ := hq
  cases rz
  exact ⟨.bl b, H', I', rfl, hb⟩
theorem s_oeq (g : Gd C U cl X W) (hc : C.calm = true) {x y : Ex} (ha : PE X a (rdE U W (ev cl x).1)) (hb : PE X b (rdE U W (ev cl y).1)) (hm : behindInMarks (copOf .eq) b = false) : PE X (.Compare a [copOf .eq] [b] pos) (rdE U W (ev cl (.oeq x y)).1) := by
  refine (pe_cmpR (op_own g hc) ha hb hm).imp fun σ H Q ⟨ι, s, τ, hs, hf, hp⟩ => ?_
  obtain ⟨ι, s, τ, h1, h2, h3⟩ := Gd.rd2 hs hf (Post.bv (W' := W) (σ' := σ) hp)
  refine ⟨ι, s, τ, h1, h2, h3.imp fun v H1 ⟨ι, s, τ, h1, h2, h3⟩ => ⟨ι, s, τ, h1, h2, h3.imp fun v H1 ⟨ι, s, d, e, q1, _, q2, q3, q4⟩ => ⟨ι, s, d, e, q1, q2, q3, ?_⟩⟩⟩
  exact (Post.vb q4).imp fun x H ⟨k, e, z⟩ => e ▸ z
theorem t_oeq (g : Gd C U cl X W) (hc : C.calm = true) {x y : Ex} (ha : PE X a (rdE U W (ev cl x).1)) (hb : PE X b (rdE U W (ev cl y).1)) (hm : behindInMarks (copOf .eq) b = false) : PT X (.Compare a [copOf .eq] [b] pos) (rdT U W (ev cl (.oeq x y)).2) := by
  refine (pt_cmpR (op_own g hc) ha hb hm).imp fun σ H Q ⟨ι, s, τ, hs, hf, hp⟩ => ?_
  obtain ⟨ι, s, τ, h1, h2, h3⟩ := Gd.rd2 hs hf hp
  exact ⟨ι, s, τ, h1, h2, h3.imp fun v H1 ⟨ι, s, τ, h1, h2, h3⟩ => ⟨ι, s, τ, h1, h2, h3.imp fun v H1 ⟨ι, s, d, e, q1, _, q2, q3, q4⟩ => ⟨ι, s, d, e, q1, q2, q3, Post.vb q4⟩⟩⟩
theorem s_dct : PE X (.Dict [] [] pos) (rdE U W (ev cl .dct).1) := by
  refine pe_dnewK.imp fun σ H Q ⟨ι, s, τ, hs, hf, hp⟩ => ?_
  have hp : Post U (RD U) W σ ι H (new (.dct []) s) Q := hp
  exact fun p np => hp.p.mk hs np (ObR.dct np (vs := []) rfl)
/-- a new instance is tracked -/
theorem new_ins {ι : List Addr} {H : Hp} {s : S} (hs : RelS U ι s H) {c : Str} {x dx : Addr} (nx : H x = none) (nd : H dx = none) (ne : dx ≠ x) :
    RelS U (ι ++ [x]) (s ++ [.ins c []]) (upd (upd H dx (.own x)) x (.ins (U.cad c) dx [])) ∧ Go ι H (ι ++ [x]) (upd (upd H dx (.own x)) x (.ins (U.cad c) dx [])) := by
  have sm : Same H (upd (upd H dx (.own x)) x (.ins (U.cad c) dx [])) := fun b u e => by
    rw [upd_ne (ne_of_none e nx), upd_ne (ne_of_none e nd)]
    exact e
  exact ⟨hs.new nx sm ⟨dx, [], upd_same, rfl⟩, Go.new sm nx⟩
/-- C(..) is run -/
theorem make_run {pins : List (Addr × Obj)} {σ : L2.St} {H : Hp} {sh : Shared} {Q : VK} {us : List Value} {vs : List V} {fi Ca : Addr} {fd : FuncData} {ps : List Str} {sp : Sp} {k : Nat} (tk : Takes X W) (M : Mk X.K Ca fi) (F : FnOk X.prog X.w X.K X.mg X.base (L2.CX X.prog X.w) k fi fd ps sp) (ro : Room (k + 1) X.A) (bi : Binds X.K fd ps [])
    (I : Inv X pins σ H sh) (r : Vals vs us)
    (h : ∀ x dx, H x = none → H dx = none → dx ≠ x → sp (.ref x :: vs) (upd (upd H dx (.own x)) x (.ins Ca dx [])) (fun v H2 => v = .non ∧ Q (.ref x) H2) (WE W σ)) :
    wpAny (model X.prog X.w) X.A (call (.ref Ca) us) (EP X pins σ Q) X.xe sh := by
  have q0 := h (sh.heap.objs.size + 1) sh.heap.objs.size (I.hok.fresh (Nat.le_succ _)) (I.hok.fresh (Nat.le_refl _)) (Nat.ne_of_lt (Nat.lt_succ_self _))
  have J := Inv.made (C := Ca) I
  have rr : Vals (V.ref (sh.heap.objs.size + 1) :: vs) (Value.ref (sh.heap.objs.size + 1) :: us) := .cons rfl r
  have ln : (Value.ref (sh.heap.objs.size + 1) :: us).length = ps.length := by rw [← rr.length, F.len _ _ _ _ q0]
  have bb := bi _ (Value.ref (sh.heap.objs.size + 1) :: us) J.kIn (by rw [List.append_nil]; exact ln)
  rw [List.append_nil] at bb
  refine wpAny_call (make_map (f := fi) I.kIn M.makes M.init (beq_iff_eq.mp M.fn) (codeAny_mono (F.run _ X.stack _ _ ⟨Value.ref (sh.heap.objs.size + 1) :: us, []⟩ (Value.ref (sh.heap.objs.size + 1) :: us) _ _ (WE W σ) (ro.make Ca us [])
    (J.env0.make Ca us []) bb rr q0) fun re s' hq => ?_))
  cases re with
  | error er => exact passAt tk σ pins _ _ er s' J hq
  | ok fl =>
    cases fl with
    | ret u =>
      obtain ⟨v, H', I3, rv, ev, q3⟩ := J.after hq
      subst ev
      exact ⟨rv, ⟨V.ref (sh.heap.objs.size + 1), H', I3, rfl, q3⟩⟩
    | next => exact hq.elim
    | brk => exact hq.elim
    | cont => exact hq.elim
theorem s_mk (g : Gd C U cl X W) (hc : C.calm = true) {c : Str} {es : Exs} {y : Expr} {ys : List Expr} {p : Pos} (hg : glB X.env.scope c = true) (hm : nmB c = true) (ho : okEs C es X.env.scope (y :: ys) = true)
    (ha : PA X (y :: ys) (rdA U W (evs cl es))) : PE X (.Call (.Name c p) (y :: ys) [] pos) (rdE U W (ev cl (.mk c es)).1) := by
  refine ⟨fun pins sh σ H Q I ⟨ι, s, τ, hs, hf, hp⟩ => ?_⟩
  have hp : Post U (RD U) W σ ι H (match initF cl c with
    | some f => (evs cl es τ s).bind fun ds s => mkD cl c f ds s
    | none => .bad) Q := hp
  split at hp
  case h_2 => exact hp.elim
  rename_i gi e0
  obtain ⟨k, ek, ei⟩ := Option.bind_eq_some_iff.mp e0
  have z := g.cls c k ek hc
  obtain ⟨fi, M, fd, ps, kk, F, ro, bi⟩ := z.init gi ei
  obtain ⟨o1, o2⟩ := okEs_cons (pos := pos) ho
  refine wpAny_Call_Name_kw (ld_glob I (glB_ok hg) z.mg ?_ (nmB_ok hm).1)
  refine PySem.W.callWith_K (h₀ := X.base) I.ok.mod.kin M.kp (thn (ha.run pos pins sh σ H _ I ⟨ι, s, τ, hs, hf, post_evs hf hp⟩) fun us s1 ⟨vs, H1, I1, r, ι1, st1, ds, q1, _, q2, q3, _, q4⟩ => ⟨I1.kIn, ?_⟩) o1 o2
  refine make_run g.tk M F ro bi I1 r fun x dx nx nd ne => ?_
  obtain ⟨r1, go⟩ := new_ins q1 (c := c) nx nd ne
  have rx : Rep U.K (ι1 ++ [x]) (upd (upd H1 dx (.own x)) x (.ins (U.cad c) dx [])) (.ref st1.length) (.ref x) := by
    simp only [Rep]
    exact ⟨x, rfl, by rw [← q1.len]; simp⟩
  refine ⟨ι1 ++ [x], st1 ++ [.ins c []], .ref st1.length :: ds, r1, Reps.cons rx (q2.mono go.ex go.tups), ?_⟩
  have q5 : Post U (RD U) W σ (ι1 ++ [x]) (upd (upd H1 dx (.own x)) x (.ins (U.cad c) dx [])) ((cl.call gi (.ref st1.length :: ds) (st1 ++ [.ins c []])).bind (asNew st1.length)) Q := Post.mono go q4
  revert q5
  cases cl.call gi (.ref st1.length :: ds) (st1 ++ [.ins c []]) with
  | ok d s' =>
    simp only [R.bind_ok]
    intro q5 ι2 H2 v go2 rs2 rv
    cases d with
    | non => exact ⟨rv.non_of, q5 ι2 H2 (.ref x) go2 rs2 (rx.mono go2.ex go2.tups)⟩
    | _ => exact q5.elim
  | exc c fs s' => exact fun z => z
  | bad => exact fun z => z
/-! isinstance of an own class -/
theorem isc_D (g : Gd C U cl X W) (hc : C.calm = true) {ι : List Addr} {s s' : S} {H : Hp} (hs : RelS U ι s H) {c : Str} {d : D} {x : V} {b : Bool} (r : Rep U.K ι H d x) (h : iscD cl c d s = .ok b s') :
    s' = s ∧ ∃ k, cl.cls c = some k ∧ ∃ tv, TyX X.K H x tv ∧ PySem.W.kitOne X.K tv (.ref (U.cad c)) = some b := by
  have fin : ∀ (T : String), T ∈ ["NoneType", "bool", "int", "str", "list", "tuple", "dict"] → TyX X.K H x (.type T) → (cl.cls c).isSome = true → s' = s → b = false →
      s' = s ∧ ∃ k, cl.cls c = some k ∧ ∃ tv, TyX X.K H x tv ∧ PySem.W.kitOne X.K tv (.ref (U.cad c)) = some b := fun T hT ty hk e1 e2 => by
    obtain ⟨k, ek⟩ := Option.isSome_iff_exists.mp hk
    exact ⟨e1, k, ek, _, ty, by rw [e2]; exact (g.cls c k ek hc).bt T hT⟩
  cases d with
  | non => cases r.non_of; simp only [iscD] at h; split at h <;> cases h; exact fin _ (by decide) (.base .non) (by assumption) rfl rfl
  | bl _ => cases r.bl_of; simp only [iscD] at h; split at h <;> cases h; exact fin _ (by decide) (.base (.bl _)) (by assumption) rfl rfl
  | int _ => cases r.int_of; simp only [iscD] at h; split at h <;> cases h; exact fin _ (by decide) (.base (.int _)) (by assumption) rfl rfl
  | str _ => cases r.str_of; simp only [iscD] at h; split at h <;> cases h; exact fin _ (by decide) (.base (.str _)) (by assumption) rfl rfl
  | tup ds =>
    simp only [Rep] at r
    obtain ⟨a, vs, rfl, h1, h2⟩ := r
    simp only [iscD] at h
    split at h <;> cases h
    refine fin "tuple" (by decide) ?_ (by assumption) rfl rfl
    rcases h1 with h1 | ⟨o, its, n, h1, h3, _⟩
    · exact .base (.tup h1)
    · exact .kTuple (g.hK ▸ h1) h3
  | flst ds =>
    simp only [Rep] at r
    obtain ⟨a, vs, rfl, h1, h2⟩ := r
    simp only [iscD] at h
    split at h <;> cases h
    refine fin "list" (by decide) ?_ (by assumption) rfl rfl
    rcases h1 with ⟨o, h1⟩ | ⟨o, its, n, h1, h3, _⟩
    · exact .base (.frz h1)
    · exact .kList (g.hK ▸ h1) h3
  | ref n =>
    simp only [Rep] at r
    obtain ⟨a, rfl, i⟩ := r
    simp only [iscD] at h
    split at h
    · rename_i x fs q
      split at h
      · rename_i hk
        cases h
        obtain ⟨k, ek⟩ := Option.isSome_iff_exists.mp hk.1
        obtain ⟨k2, ek2⟩ := Option.isSome_iff_exists.mp hk.2
        obtain ⟨dx, vs, h1, h2⟩ := hs.at q i
        have z := g.cls x k ek hc
        have z2 := g.cls c k2 ek2 hc
        exact ⟨rfl, k2, ek2, _, .base (.ins h1 z.cls z.ins.1 z.ins.2.1 z.ins.2.2.1 z.ins.2.2.2), z2.one x k ek⟩
      · cases h
    · cases h
    · rename_i o hne hnf q
      split at h
      · cases h
        cases o with
        | lst ds => obtain ⟨vs, h1, h2⟩ := hs.at q i; exact fin _ (by decide) (.base (.lst h1)) (by assumption) rfl rfl
        | dct ds => obtain ⟨vs, h1, h2⟩ := hs.at q i; exact fin _ (by decide) (.base (.dK h1)) (by assumption) rfl rfl
        | ins cc fs => exact (hne cc fs rfl).elim
        | frd ds => exact (hnf ds rfl).elim
      · cases h
    · cases h
theorem isc_noexc {c : Str} {d : D} {s : S} : ∀ cc fs s', iscD cl c d s ≠ .exc cc fs s' := by
  intro cc fs s' h
  cases d <;> simp only [iscD] at h <;> first
    | (cases h; done)
    | (split at h <;> cases h; done)
    | (split at h <;> first
        | (cases h; done)
        | (split at h <;> cases h))
theorem s_isc (g : Gd C U cl X W) (hc : C.calm = true) {c : Str} {x : Ex} {p q : Pos} (hg : glB X.env.scope "isinstance" = true) (hg2 : glB X.env.scope c = true) (hm : nmB c = true) (ns : notStar a = true) (ha : PE X a (rdE U W (ev cl x).1)) :
    PE X (.Call (.Name "isinstance" p) [a, .Name c q] [] pos) (rdE U W (ev cl (.isc x c)).1) := by
  by_cases hk : (cl.cls c).isSome = true
  · obtain ⟨k, ek⟩ := Option.isSome_iff_exists.mp hk
    have z := g.cls c k ek hc
    have hb : PE X (.Name c q) (tC (.ref (U.cad c))) := pe_glob (glB_ok hg2) z.mg rfl (nmB_ok hm).1
    refine (pe_callB (call_isi (X := X)) (glB_ok hg) (g.blt _ (by decide +kernel)) (by decide +kernel) (pa_cons ha (pa_cons hb pa_nil rfl) (star_cons ns)) (by decide +kernel) (by decide +kernel) (star_cons ns) rfl).imp fun σ H Q ⟨ι, s, τ, hs, hf, hp⟩ => ?_
    have hp : Post U (RD U) W σ ι H (if (cl.cls c).isSome = true then ((ev cl x).1 τ s).bind fun x s => (iscD cl c x s).bind fun b s => .ok (.bl b) s else .bad) Q := hp
    rw [if_pos hk] at hp
    refine ⟨ι, s, τ, hs, hf, (Post.bindF (rel := RD U) hf hp).imp fun v H1 ⟨ι, s, d, q1, q0, q2, _, q4⟩ => ?_⟩
    show rIsi X.K [v, .ref (U.cad c)] H1 Q
    cases h : iscD cl c d s with
    | ok b s' =>
      obtain ⟨rfl, _, _, tv, h1, h2⟩ := isc_D g hc q1 q2 h
      rw [h] at q4
      exact ⟨v, .ref (U.cad c), tv, .ref (U.cad c), b, rfl, .own _, h1, h2, q4.p.val q1 (rep_bl _)⟩
    | exc c fs s' => exact (isc_noexc _ _ _ h).elim
    | bad => rw [h] at q4; exact q4.elim
  · refine ⟨fun pins sh σ H Q I ⟨ι, s, τ, hs, hf, hp⟩ => ?_⟩
    have hp : Post U (RD U) W σ ι H (if (cl.cls c).isSome = true then ((ev cl x).1 τ s).bind fun x s => (iscD cl c x s).bind fun b s => .ok (.bl b) s else .bad) Q := hp
    rw [if_neg hk] at hp
    exact hp.elim
theorem bf_in (b : Bf) : bfName b ∈ blts := by cases b <;> decide +kernel
theorem bf_boot (b : Bf) : bootBuiltins (bfName b) = some (bfVal b) := by cases b <;> decide +kernel
theorem s_blt (g : Gd C U cl X W) (hca : C.calm = true) {b : Bf} {es : Exs} {y : Expr} {ys : List Expr} {p : Pos} (hg : glB X.env.scope (bfName b) = true) (ho : okEs C es X.env.scope (y :: ys) = true)
    (ha : PA X (y :: ys) (rdA U W (evs cl es))) : PE X (.Call (.Name (bfName b) p) (y :: ys) [] pos) (rdE U W (ev cl (.blt b es)).1) := by
  have st := okEs_star (env := X.env) ho
  have ns : notStar y = true := by
    cases es with
    | nil => cases ho
    | cons e es => simp only [okEs, Bool.and_eq_true] at ho; exact ho.1.1
  have st2 : ∀ t ∈ starEach ys X.env, t.1 = false := fun t ht => st t (by rw [star_cons ns]; exact List.mem_cons_of_mem _ ht)
  have hc := blt_D (U := U) g.hK (g.calm hca) b
  have hv := bf_boot b
  have hm := g.blt _ (bf_in b)
  have fin : ∀ σ H Q, rdE U W (ev cl (.blt b es)).1 σ H Q → tCB (rCall U (bltD b)) (rdA U W (evs cl es)) σ H Q := fun σ H Q ⟨ι, s, τ, hs, hf, hp⟩ =>
    ⟨ι, s, τ, hs, hf, (post_evs hf hp).imp fun vs H1 ⟨ι, s, ds, q1, _, q2, q3, _, q4⟩ => ⟨ι, s, ds, q1, q2, q4.p⟩⟩
  have e1 : (bfName b == ("__debug__" : Str)) = false := by cases b <;> decide +kernel
  have e2 : bfName b ≠ "__name__" := by cases b <;> decide +kernel
  cases b with
  | len => exact (pe_callB hc (glB_ok hg) hm hv ha e2 e1 (star_cons ns) (back_plain st2)).imp fin
  | abs => exact (pe_callB hc (glB_ok hg) hm hv ha e2 e1 (star_cons ns) (back_plain st2)).imp fin
  | int => exact (pe_callTy hc (glB_ok hg) hm hv ha e2 e1 (star_cons ns) (back_plain st2)).imp fin
  | list => exact (pe_callTy hc (glB_ok hg) hm hv ha e2 e1 (star_cons ns) (back_plain st2)).imp fin
  | tuple => exact (pe_callTy hc (glB_ok hg) hm hv ha e2 e1 (star_cons ns) (back_plain st2)).imp fin
  | dict => exact (pe_callTy hc (glB_ok hg) hm hv ha e2 e1 (star_cons ns) (back_plain st2)).imp fin
  | sorted => exact (pe_callB hc (glB_ok hg) hm hv ha e2 e1 (star_cons ns) (back_plain st2)).imp fin
  | min => exact (pe_callB hc (glB_ok hg) hm hv ha e2 e1 (star_cons ns) (back_plain st2)).imp fin
  | max => exact (pe_callB hc (glB_ok hg) hm hv ha e2 e1 (star_cons ns) (back_plain st2)).imp fin
theorem ty_in (t : Ty) : Str.ofString (tyName t) ∈ blts := by cases t <;> decide +kernel
theorem ty_boot (t : Ty) : bootBuiltins (Str.ofString (tyName t)) = some (.type (tyName t)) := by cases t <;> decide +kernel
theorem s_isi (g : Gd C U cl X W) {t : Ty} {x : Ex} {p q : Pos} (hg : glB X.env.scope "isinstance" = true) (hg2 : glB X.env.scope (Str.ofString (tyName t)) = true) (ns : notStar a = true) (ha : PE X a (rdE U W (ev cl x).1)) :
    PE X (.Call (.Name "isinstance" p) [a, .Name (Str.ofString (tyName t)) q] [] pos) (rdE U W (ev cl (.isi x t)).1) := by
  have e1 : (Str.ofString (tyName t) == ("__debug__" : Str)) = false := by cases t <;> decide +kernel
  have e2 : Str.ofString (tyName t) ≠ "__name__" := by cases t <;> decide +kernel
  have hb : PE X (.Name (Str.ofString (tyName t)) q) (tC (.ty (tyName t))) := pe_bltn (glB_ok hg2) (g.blt _ (ty_in t)) (ty_boot t) rfl e2 e1
  refine (pe_callB (call_isi (X := X)) (glB_ok hg) (g.blt _ (by decide +kernel)) (by decide +kernel) (pa_cons ha (pa_cons hb pa_nil rfl) (star_cons ns)) (by decide +kernel) (by decide +kernel) (star_cons ns) rfl).imp fun σ H Q ⟨ι, s, τ, hs, hf, hp⟩ => ?_
  refine ⟨ι, s, τ, hs, hf, (Post.bindF (rel := RD U) hf hp).imp fun v H1 ⟨ι, s, d, q1, q0, q2, _, q4⟩ => ?_⟩
  show rIsi X.K [v, .ty (tyName t)] H1 Q
  cases h : isiD t d s with
  | ok b s' =>
    obtain ⟨rfl, tv, h1, h2⟩ := isi_D g.hK q1 q2 h
    rw [h] at q4
    exact ⟨v, .ty (tyName t), tv, .type (tyName t), b, rfl, .ty _, h1, h2, q4.p.val q1 (rep_bl _)⟩
  | exc c fs s' =>
    cases d <;> cases t <;> simp only [isiD] at h <;> first | cases h | (split at h <;> cases h)
  | bad => rw [h] at q4; exact q4.elim
theorem mi_plain (m : Mi) : PlainAttrs (miTy m) ∧ Slot (miTy m) (miName m) (miId m) ∧ typeOf (.builtin (miId m)) = pure (.type "method_descriptor") := by
  cases m with
  | lappend => exact ⟨PySem.F.plainAttrs_list, PySem.F.slot_list_append, PySem.F.type_list_append⟩
  | sjoin => exact ⟨PySem.F.plainAttrs_str, PySem.F.slot_str_join, PySem.F.type_str_join⟩
  | lclear => exact ⟨PySem.F.plainAttrs_list, PySem.F.slot_list_clear, PySem.F.type_list_clear⟩
  | dclear => exact ⟨PySem.F.plainAttrs_dict, PySem.F.slot_dict_clear, PySem.F.type_dict_clear⟩
  | dget => exact ⟨PySem.F.plainAttrs_dict, PySem.F.slot_dict_get, PySem.F.type_dict_get⟩
  | linsert => exact ⟨PySem.F.plainAttrs_list, PySem.F.slot_list_insert, PySem.F.type_list_insert⟩
  | lpop => exact ⟨PySem.F.plainAttrs_list, PySem.F.slot_list_pop, PySem.F.type_list_pop⟩
  | lextend => exact ⟨PySem.F.plainAttrs_list, PySem.F.slot_list_extend, PySem.F.type_list_extend⟩
  | dpop => exact ⟨PySem.F.plainAttrs_dict, PySem.F.slot_dict_pop, PySem.F.type_dict_pop⟩
theorem s_meth (g : Gd C U cl X W) {m : Mf} {x : Ex} {es : Exs} {ys : List Expr} {apos : Pos} (hb : baseB a = true) (hl : (apos.endLine == pos.line) = true) (hz : ys.length < 20) (ho : okEs C es X.env.scope ys = true)
    (ha : PE X a (rdE U W (ev cl x).1)) (hes : PA X ys (rdA U W (evs cl es))) : PE X (.Call (.Attribute a (mfName m) apos) ys [] pos) (rdE U W (ev cl (.meth m x es)).1) := by
  refine ⟨fun pins sh σ H Q I ⟨ι, s, τ, hs, hf, hp⟩ => ?_⟩
  have hp : Post U (RD U) W σ ι H (((ev cl x).1 τ s).bind fun x s => match mSel m x s with
    | some i => (evs cl es τ s).bind fun ds s => mtD i x ds s
    | none => .bad) Q := hp
  refine wpAny_Call_method_late (base_ok hb) (few_ok ho hz) hl rfl (thn (ha.run pins sh σ H _ I ⟨ι, s, τ, hs, hf, Post.bindF (rel := RD U) hf hp⟩) fun u s1 ⟨xv, H1, I1, rx, ι1, st1, d, h1, h2, h3, h4, h5⟩ => ?_)
  split at h5
  case h_2 => exact h5.elim
  rename_i i q
  obtain ⟨en, ty⟩ := mSel_ty g.hK h1 h3 q
  obtain ⟨p1, p2, p3⟩ := mi_plain i
  obtain ⟨t1, t2⟩ := tyV_is I1 rx ty
  refine ⟨miTy i, miId i, p1, by rw [← en]; exact p2, p3, t1, t2, ?_⟩
  have M := meth_D (U := U) (X := X) g.hK (by have := g.hu; omega) i
  cases ys with
  | nil =>
    cases es with
    | cons _ _ => cases ho
    | nil => exact Calls.callWith_builtin rfl (PySem.evalArgs_none (M pins s1 σ H1 xv [] u [] Q I1 rx .nil ⟨ι1, st1, d, [], h1, h3, Reps.nil, (show Post U (RD U) W σ ι1 H1 (mtD i d [] st1) Q from h5).p⟩))
  | cons y ys =>
    obtain ⟨o1, o2⟩ := okEs_cons (pos := pos) ho
    have hA := hes.run pos pins s1 σ H1 _ I1 ⟨ι1, st1, τ, h1, h2, post_evs h2 h5⟩
    rw [o1] at hA ⊢
    refine Calls.callWith_builtin (by show (false || (backTo pos (starEach ys X.env)).any (·.1)) = false; rw [o2] <;> rfl) (Calls.evalArgs_plain ?_)
    exact thn hA fun us s2 ⟨vs, H2, I2, r2, ι2, st2, ds, q1, _, q2, q3, q4, q5⟩ => M pins s2 σ H2 xv vs u us Q I2 rx r2 ⟨ι2, st2, d, ds, q1, h3.mono q4.ex q4.tups, q2, q5.p⟩

/-! ### what is walked -/
/-- the arguments' run, then what stands there to be walked -/
noncomputable def srcRun (cl : CL) (k : Ik) (its : Exs) : Fr → S → R Src := fun τ s => (evs cl its τ s).bind fun ds s => match srcOf k ds s with
  | some src => .ok src s
  | none => .bad
def rdI (U : Su) (W : WX) (m : Fr → S → R Src) : TI := fun σ H Q => ∃ ι s τ, RelS U ι s H ∧ RelF U ι H τ σ ∧ Post U (fun ι H src J => ItOk U ι H src J) W σ ι H (m τ s) Q
theorem PostI.val {σ : L2.St} {ι : List Addr} {H : Hp} {s : S} {src : Src} {J : It} {Q : It → Hp → Prop} (h : Post U (fun ι H src J => ItOk U ι H src J) W σ ι H (.ok src s) Q) (hs : RelS U ι s H) (i : ItOk U ι H src J) : Q J H := h ι H J (Go.refl _ _) hs i
theorem i_seq (g : Gd C U cl X W) {x : Ex} {tg : Expr} (h : PE X e (rdE U W (ev cl x).1)) : PI X tg e (rdI U W (srcRun cl .seq (.cons x .nil))) := by
  refine ((pi_list h).or ((pi_tup h).or ((pi_str h).or (pi_keys h)))).imp fun σ H Q ⟨ι, s, τ, hs, hf, hp⟩ => ?_
  have hp : Post U (fun ι H src J => ItOk U ι H src J) W σ ι H ((((ev cl x).1 τ s).bind fun d s => .ok [d] s).bind fun ds s => match srcOf .seq ds s with | some src => .ok src s | none => .bad) Q := hp
  cases q : (ev cl x).1 τ s with
  | bad => rw [q] at hp; exact hp.elim
  | exc c fs s' =>
    rw [q] at hp
    exact .inl ⟨ι, s, τ, hs, hf, by rw [q]; exact hp⟩
  | ok d s' =>
    rw [q] at hp
    simp only [R.bind_ok] at hp
    cases d with
    | ref n =>
      simp only [srcOf] at hp
      cases q2 : lstAt s' n with
      | some ds =>
        rw [q2] at hp
        refine .inl ⟨ι, s, τ, hs, hf, ?_⟩
        rw [q]
        intro ι2 H2 v go h1 h2
        have h2 : Rep U.K ι2 H2 (.ref n) v := h2
        simp only [Rep] at h2
        obtain ⟨a, rfl, ia⟩ := h2
        obtain ⟨vs, h3, h4⟩ := lst_sq h1 q2 ia
        exact ⟨a, rfl, ⟨vs, g.hK ▸ h3⟩, hp ι2 H2 _ go h1 (it_list g.hK ia)⟩
      | none =>
        rw [q2] at hp
        simp only [] at hp
        split at hp
        case h_2 => exact hp.elim
        rename_i src q3
        split at q3
        case h_2 => cases q3
        rename_i kvs q4
        cases q3
        refine .inr (.inr (.inr ⟨ι, s, τ, hs, hf, ?_⟩))
        rw [q]
        intro ι2 H2 v go h1 h2
        have h2 : Rep U.K ι2 H2 (.ref n) v := h2
        simp only [Rep] at h2
        obtain ⟨a, rfl, ia⟩ := h2
        obtain ⟨od, vs, h3, h4⟩ := h1.at q4 ia
        exact ⟨a, od, rfl, .inl ⟨vs, h3, hp ι2 H2 _ go h1 (it_keys ia h3)⟩⟩
    | flst ds =>
      refine .inl ⟨ι, s, τ, hs, hf, ?_⟩
      rw [q]
      intro ι2 H2 v go h1 h2
      have h2 : Rep U.K ι2 H2 (.flst ds) v := h2
      simp only [Rep] at h2
      obtain ⟨a, vs, rfl, h3, h4⟩ := h2
      exact ⟨a, rfl, ⟨vs, g.hK ▸ h3.sq⟩, hp ι2 H2 _ go h1 (it_flst g.hK h3 h4)⟩
    | tup ds =>
      refine .inr (.inl ⟨ι, s, τ, hs, hf, ?_⟩)
      rw [q]
      intro ι2 H2 v go h1 h2
      have h2 : Rep U.K ι2 H2 (.tup ds) v := h2
      simp only [Rep] at h2
      obtain ⟨a, vs, rfl, h3, h4⟩ := h2
      exact ⟨a, rfl, ⟨vs, g.hK ▸ h3.sq⟩, hp ι2 H2 _ go h1 (it_tup g.hK h3 h4)⟩
    | str z =>
      refine .inr (.inr (.inl ⟨ι, s, τ, hs, hf, ?_⟩))
      rw [q]
      intro ι2 H2 v go h1 h2
      exact ⟨z, h2.str_of, hp ι2 H2 _ go h1 it_str⟩
    | _ => exact hp.elim
theorem i_items (g : Gd C U cl X W) {x : Ex} {el : List Expr} {kk : Nat} {tp apos : Pos} (hb : baseB e = true) (hl : (apos.endLine == pos.line) = true) (h : PE X e (rdE U W (ev cl x).1)) : PI X (.Tuple el kk tp) (.Call (.Attribute e "items" apos) [] [] pos) (rdI U W (srcRun cl .items (.cons x .nil))) := by
  refine (pi_items h (base_ok hb) hl).imp fun σ H Q ⟨ι, s, τ, hs, hf, hp⟩ => ?_
  have hp : Post U (fun ι H src J => ItOk U ι H src J) W σ ι H ((((ev cl x).1 τ s).bind fun d s => .ok [d] s).bind fun ds s => match srcOf .items ds s with | some src => .ok src s | none => .bad) Q := hp
  refine ⟨ι, s, τ, hs, hf, ?_⟩
  cases q : (ev cl x).1 τ s with
  | bad => rw [q] at hp; exact hp.elim
  | exc c fs s' => rw [q] at hp; exact hp
  | ok d s' =>
    rw [q] at hp
    simp only [R.bind_ok] at hp
    cases d <;> simp only [srcOf] at hp <;> first
      | (exact hp.elim; done)
      | skip
    rename_i n
    split at hp
    case h_2 => exact hp.elim
    rename_i src q3
    split at q3
    case h_2 => cases q3
    rename_i kvs q4
    cases q3
    intro ι2 H2 v go h1 h2
    have h2 : Rep U.K ι2 H2 (.ref n) v := h2
    simp only [Rep] at h2
    obtain ⟨ad, rfl, ia⟩ := h2
    obtain ⟨od, vs, h3, h4⟩ := h1.at q4 ia
    exact ⟨ad, od, vs, rfl, h3, hp ι2 H2 _ go h1 (it_items ia h3)⟩
theorem i_rng1 (g : Gd C U cl X W) {es : Exs} {tg : Expr} {p : Pos} (hg : glB X.env.scope "range" = true) (ho : okEs C es X.env.scope [a] = true) (ha : PA X [a] (rdA U W (evs cl es))) : PI X tg (.Call (.Name "range" p) [a] [] pos) (rdI U W (srcRun cl .rng1 es)) := by
  have ns : notStar a = true := by
    cases es with
    | nil => cases ho
    | cons e es => simp only [okEs, Bool.and_eq_true] at ho; exact ho.1.1
  refine (pi_range1 (glB_ok hg) (g.blt _ (by decide +kernel)) ha (star_cons ns)).imp fun σ H Q ⟨ι, s, τ, hs, hf, hp⟩ => ?_
  refine ⟨ι, s, τ, hs, hf, (post_evs hf hp).imp fun vs H1 ⟨ι, s, ds, q1, _, q2, q3, _, q4⟩ => ?_⟩
  match ds, q2, q4 with
  | [.int j], q2, q4 =>
    obtain ⟨v, rfl, r⟩ := q2.one_of
    simp only [srcOf] at q4
    split at q4
    · rename_i src q5
      split at q5
      · rename_i hb
        cases q5
        exact ⟨j, by rw [r.int_of], hb.1, hb.2, PostI.val q4 q1 it_rng⟩
      · cases q5
    · exact q4.elim
  | [], q2, q4 => exact q4.elim
  | _ :: _ :: _, q2, q4 => exact (show False from by unfold srcOf at q4; split at q4 <;> simp_all [Post]).elim
  | [.non], q2, q4 => exact q4.elim
  | [.bl _], q2, q4 => exact q4.elim
  | [.str _], q2, q4 => exact q4.elim
  | [.tup _], q2, q4 => exact q4.elim
  | [.ref _], q2, q4 => exact q4.elim
  | [.flst _], q2, q4 => exact q4.elim
theorem i_rng2 (g : Gd C U cl X W) {es : Exs} {tg : Expr} {p : Pos} (hg : glB X.env.scope "range" = true) (ho : okEs C es X.env.scope [a, b] = true) (ha : PA X [a, b] (rdA U W (evs cl es))) : PI X tg (.Call (.Name "range" p) [a, b] [] pos) (rdI U W (srcRun cl .rng2 es)) := by
  have ns : notStar a = true ∧ notStar b = true := by
    cases es with
    | nil => cases ho
    | cons e es =>
      simp only [okEs, Bool.and_eq_true] at ho
      cases es with
      | nil => cases ho.2
      | cons e2 es => simp only [okEs, Bool.and_eq_true] at ho; exact ⟨ho.1.1, ho.2.1.1⟩
  refine (pi_range2 (glB_ok hg) (g.blt _ (by decide +kernel)) ha (by rw [star_cons ns.1, star_cons ns.2]; rfl) (star_cons ns.2)).imp fun σ H Q ⟨ι, s, τ, hs, hf, hp⟩ => ?_
  refine ⟨ι, s, τ, hs, hf, (post_evs hf hp).imp fun vs H1 ⟨ι, s, ds, q1, _, q2, q3, _, q4⟩ => ?_⟩
  cases q5 : srcOf .rng2 ds s with
  | none => simp only [q5] at q4; exact q4.elim
  | some src =>
    simp only [q5] at q4
    have key : ∃ i j : Int, ds = [.int i, .int j] := by
      unfold srcOf at q5
      split at q5 <;> first
        | contradiction
        | exact ⟨_, _, rfl⟩
        | (rename_i h; cases h)
    obtain ⟨i, j, rfl⟩ := key
    simp only [srcOf] at q5
    split at q5
    · rename_i hb
      cases q5
      obtain ⟨v, w, rfl, r, r'⟩ := q2.two_of
      exact ⟨i, j, by rw [r.int_of, r'.int_of], hb, PostI.val q4 q1 it_rng⟩
    · cases q5

/-! ### comprehensions -/
theorem lc_parts (g : Gd C U cl X W) (hcm : C.calm = true) {elt cond : Ex} {t : Tv} {k : Ik} {its : Exs} {own : List (Str × Nat)} {tg it el : Expr} {ifs : List Expr} {scope : Scope} (hb : blkC C.N X.env.scope scope own = true) (hown : ∀ i ∈ tvIs t, i ∈ own.map (·.2)) (hns : notSet it = true)
    (hc : ∀ X' : Cx, Gd C U cl X' (fun _ _ _ _ => False) → X'.env.scope = relS scope X.env.scope → (ifs = [] ∧ cond.isNop = true) ∨ (∃ i, ifs = [i] ∧ cond.isNop = false ∧ PT X' i (rdT U (fun _ _ _ _ => False) (ev cl cond).2))) :
    ∃ tt : TT, (∀ (s : Shared) (H : Hp) (Cl : Addr) (cl' : List (Str × Addr)) (fp : List Addr), PTs (X.blk s H scope (compEnvC scope cl' Cl X.env) fp) ifs tt) ∧
      ∀ σ H Q, rdE U W (ev cl (.lc elt t k its cond own)).1 σ H Q → tLc (rdI U W (srcRun cl k its)) (gT X.K t) tt (rdE U (fun _ _ _ _ => False) (ev cl elt).1) (own.map (·.2)) σ H Q := by
  have gb : ∀ (s : Shared) (H : Hp) (Cl : Addr) (cl' : List (Str × Addr)) (fp : List Addr), Gd C U cl (X.blk s H scope (compEnvC scope cl' Cl X.env) fp) (fun _ _ _ _ => False) := fun s H Cl cl' fp => g.blk hcm s H scope _ fp
  have okb : BlkOk X.N X.env.scope scope own := by rw [g.hN]; exact blkOk_by hb
  obtain ⟨tt, htt, hrd⟩ : ∃ tt : TT, (∀ (s : Shared) (H : Hp) (Cl : Addr) (cl' : List (Str × Addr)) (fp : List Addr), PTs (X.blk s H scope (compEnvC scope cl' Cl X.env) fp) ifs tt) ∧
      ∀ σ ι s τ H Q, RelS U ι s H → RelF U ι H τ σ → Post U RB (fun _ _ _ _ => False) σ ι H (if cond.isNop = true then .ok true s else ((ev cl cond).2 τ s).calm : R Bool) Q → tt σ H Q := by
    by_cases hn : cond.isNop = true
    · refine ⟨tYes, fun s H Cl cl' fp => ?_, fun σ ι s τ H Q hs hf hp => ?_⟩
      · rcases hc _ (gb s H Cl cl' fp) rfl with ⟨rfl, _⟩ | ⟨i, rfl, h1, _⟩
        · exact pts_nil
        · rw [hn] at h1; cases h1
      · rw [if_pos hn] at hp; exact hp.pb.val hs
    · refine ⟨rdT U (fun _ _ _ _ => False) (ev cl cond).2, fun s H Cl cl' fp => ?_, fun σ ι s τ H Q hs hf hp => ?_⟩
      · rcases hc _ (gb s H Cl cl' fp) rfl with ⟨rfl, h1⟩ | ⟨i, rfl, h1, h2⟩
        · exact absurd h1 hn
        · exact pts_one h2
      · rw [if_neg hn] at hp; exact ⟨ι, s, τ, hs, hf, hp.calm⟩
  refine ⟨tt, htt, fun σ H Q ⟨ι, s, τ, hs, hf, hp⟩ => ?_⟩
  -- the source
  let G : Src → D → S → R (Option D) := fun src d s => match asgV t d s (wipeF τ (own.map (·.2))) with
    | none => .bad
    | some τ' => ((if cond.isNop = true then .ok true s else ((ev cl cond).2 τ' s).calm : R Bool)).bind fun c s => if c = true then (((ev cl elt).1 τ' s).calm).bind fun y s => .ok (some y) s else .ok none s
  have hp : Post U (RD U) W σ ι H ((evs cl its τ s).bind fun ds s => match srcOf k ds s with
    | none => .bad
    | some src => if src.items.length < sizeLine then (lcS src.ok (G src) src.items s).bind fun r s => new (.lst r) s else .bad) Q := hp
  have hp2 : Post U (RD U) W σ ι H ((srcRun cl k its τ s).bind fun src s => if src.items.length < sizeLine then (lcS src.ok (G src) src.items s).bind fun r s => new (.lst r) s else .bad) Q := by
    unfold srcRun
    cases q : evs cl its τ s with
    | ok ds s' =>
      rw [q] at hp
      simp only [R.bind_ok] at hp ⊢
      cases q2 : srcOf k ds s' with
      | none => rw [q2] at hp; exact hp
      | some src => rw [q2] at hp; exact hp
    | exc c fs s' => rw [q] at hp; exact hp
    | bad => rw [q] at hp; exact hp
  refine ⟨ι, s, τ, hs, hf, (Post.bindF (rel := fun ι H src J => ItOk U ι H src J) hf hp2).imp fun J H1 ⟨ι1, s1, src, q1, q0, q2, _, q4⟩ => ?_⟩
  split at q4
  case isFalse => exact q4.elim
  rename_i hlen
  intro Dn nD
  -- W i m H: i items are gone, the list at Dn holds acc
  have gN : ∀ H2 : Hp, Go ι1 H1 ι1 (upd H1 Dn (.lst [])) := fun _ => Go.same (same_new nD)
  refine ⟨fun i m H2 => ∃ ι2 s2 acc accV, RelS U ι2 s2 H2 ∧ Go ι1 H1 ι2 H2 ∧ Dn ∉ ι2 ∧ H2 Dn = some (.lst accV) ∧ Reps U.K ι2 H2 acc accV ∧ acc.length ≤ i ∧ i ≤ src.items.length ∧ m = src.items.length - i ∧
      Post U (RD U) W σ ι1 H1 ((lcS src.ok (G src) (src.items.drop i) s2).bind fun r s => new (.lst (acc ++ r)) s) Q, ⟨src.items.length, ι1, s1, [], [], q1.same (same_new nD), Go.same (same_new nD), q1.fresh nD, upd_same, Reps.nil, Nat.le_refl _, Nat.zero_le _, by omega, by rw [List.drop_zero]; exact q4⟩, ?_⟩
  rintro i m H2 ⟨ι2, s2, acc, accV, hs2, go2, nm, hD, ra, hl1, hl2, rfl, post⟩
  cases ed : src.items.drop i with
  | nil =>
    have hi : src.items.length ≤ i := by simpa using ed
    rw [ed] at post
    unfold lcS at post
    split at post
    · rename_i ok
      refine .inl ⟨(q2 ι2 s2 H2 go2 hs2 ok i).2 hi, ?_⟩
      simp only [R.bind_ok, List.append_nil] at post
      have go3 : Go ι1 H1 (ι2 ++ [Dn]) H2 := by
        obtain ⟨l, e, hl⟩ := go2.ext
        refine ⟨⟨l ++ [Dn], by rw [e, List.append_assoc], fun a ha => ?_⟩, go2.keep, go2.tups, go2.there, go2.fz⟩
        rcases List.mem_append.mp ha with ha | ha
        · exact hl a ha
        · have z : a = Dn := by simpa using ha
          rw [z]; exact nD
      have hs3 : RelS U (ι2 ++ [Dn]) (s2 ++ [.lst acc]) H2 := by
        refine ⟨by simp [hs2.len], fun n x e => ?_, fun n m a h1 h2 => ?_⟩
        · by_cases hn : n < s2.length
          · rw [List.getElem?_append_left hn] at e
            obtain ⟨a, h1, h2⟩ := hs2.ob n x e
            exact ⟨a, (Ext.one _ _).at h1, h2.same (Ext.one _ _) (Kept.refl _) (fun u z => z)⟩
          · have hl := (List.getElem?_eq_some_iff.mp e).1
            simp at hl
            have en : n = s2.length := by omega
            subst en
            simp at e
            subst e
            exact ⟨Dn, by rw [← hs2.len]; simp, accV, hD, ra.mono (Ext.one _ _) (Kept.refl _)⟩
        · have key : ∀ (k : Nat), (ι2 ++ [Dn])[k]? = some a → (ι2[k]? = some a ∧ a ≠ Dn) ∨ (k = ι2.length ∧ a = Dn) := by
            intro k e3
            by_cases hk' : k < ι2.length
            · rw [List.getElem?_append_left hk'] at e3
              exact .inl ⟨e3, fun z => nm (z ▸ List.mem_of_getElem? e3)⟩
            · have hl := (List.getElem?_eq_some_iff.mp e3).1
              simp at hl
              have : k = ι2.length := by omega
              refine .inr ⟨this, ?_⟩
              rw [this] at e3
              simp at e3
              exact e3.symm
          rcases key n h1 with ⟨a2, a3⟩ | ⟨a1, a2⟩ <;> rcases key m h2 with ⟨b2, b3⟩ | ⟨b1, b2⟩
          · exact hs2.inj n m a a2 b2
          · exact absurd b2 a3
          · exact absurd a2 b3
          · omega
      refine post (ι2 ++ [Dn]) H2 (.ref Dn) go3 hs3 ?_
      show Rep _ _ _ (.ref s2.length) _
      simp only [Rep]
      exact ⟨Dn, rfl, by rw [← hs2.len]; simp⟩
    · exact post.elim
  | cons d ds =>
    have hi : src.items[i]? = some d := by
      have := List.getElem?_drop (xs := src.items) (i := i) (j := 0)
      rw [ed] at this
      simpa using this.symm
    have hil : i < src.items.length := (List.getElem?_eq_some_iff.mp hi).1
    have ed2 : src.items.drop (i + 1) = ds := by
      have : src.items.drop (i + 1) = (src.items.drop i).drop 1 := by rw [List.drop_drop]
      rw [this, ed]; rfl
    rw [ed] at post
    unfold lcS at post
    split at post
    case isFalse => exact post.elim
    rename_i ok
    obtain ⟨jg, jy⟩ := (q2 ι2 s2 H2 go2 hs2 ok i).1 d hi
    refine .inr ⟨jg, fun H' => ∃ ι2 s2 acc accV, RelS U ι2 s2 H' ∧ Go ι1 H1 ι2 H' ∧ Dn ∉ ι2 ∧ H' Dn = some (.lst accV) ∧ Reps U.K ι2 H' acc accV ∧ acc.length ≤ i + 1 ∧
      Post U (RD U) W σ ι1 H1 ((lcS src.ok (G src) ds s2).bind fun r s => new (.lst (acc ++ r)) s) Q, fun H' ⟨ι2, s2, acc, accV, z1, z2, z3, z4, z5, z6, z7⟩ => ⟨src.items.length - (i + 1), by omega, ι2, s2, acc, accV, z1, z2, z3, z4, z5, z6, hil, rfl, by rw [ed2]; exact z7⟩, fun x H' hy => ?_⟩
    obtain ⟨gy, hs2, rx⟩ := jy x H' hy
    have go2 := go2.trans gy
    have hD := gy.keep _ _ hD nm
    have ra := ra.mono gy.ex gy.tups
    simp only [G] at post
    cases ea : asgV t d s2 (wipeF τ (own.map (·.2))) with
    | none => rw [ea] at post; exact post.elim
    | some τ' =>
      rw [ea] at post
      have hf2 : RelF U ι2 H' (wipeF τ (own.map (·.2))) (wipe σ (own.map (·.2))) := (wipeF_F (g.noexi hcm) (q0.mono go2.ex go2.tups) _)
      refine gT_ok g.hK hs2 (fun i _ => by rw [g.noexi hcm]; exact fun z => nomatch z) hf2 rx ea fun σ' hf3 hw => ⟨(hw _ hown).trans (wipe_wipe _), ?_⟩
      simp only [R.bind_assoc] at post
      have nx0 : ∀ c fs s', (if cond.isNop = true then R.ok true s2 else ((ev cl cond).2 τ' s2).calm : R Bool) ≠ .exc c fs s' := by
        intro c fs s' z
        split at z
        · cases z
        · cases q : (ev cl cond).2 τ' s2 <;> rw [q] at z <;> cases z
      refine hrd σ' ι2 s2 τ' H' _ hs2 hf3 ((Post.sw nx0 (Post.bindG (rel := RB) go2 post)).imp fun b H3 ⟨ι3, s3, b', r1, r2, r3, r4⟩ => ?_)
      have eb : b = b' := r2
      subst eb
      have hD3 := r3.keep _ _ hD nm
      have nm3 := r3.notin hD nm
      cases b with
      | false =>
        rw [if_neg Bool.false_ne_true]
        rw [if_neg Bool.false_ne_true] at r4
        exact ⟨ι3, s3, acc, accV, r1, go2.trans r3, nm3, hD3, ra.mono r3.ex r3.tups, by omega, by simpa only [R.bind_ok, R.bind_assoc] using r4⟩
      | true =>
        rw [if_pos rfl]
        rw [if_pos rfl] at r4
        simp only [R.bind_assoc] at r4
        refine ⟨ι3, s3, τ', r1, hf3.mono r3.ex r3.tups, ?_⟩
        refine (Post.calm (Post.bindG (rel := RD U) (go2.trans r3) r4)).imp fun y H4 ⟨ι4, s4, y', p1, p2, p3, p4⟩ => ?_
        have hD4 := p3.keep _ _ hD3 nm3
        have nm4 := p3.notin hD3 nm3
        have rl := ra.length
        refine ⟨accV, hD4, by omega, ?_⟩
        obtain ⟨o1, o2⟩ := p1.off (o := .lst (accV ++ [y])) nm4 hD4 (fun z => z)
        refine ⟨ι4, s4, acc ++ [y'], accV ++ [y], o1, ((go2.trans r3).trans p3).off nD o2, nm4, upd_same, ?_, by simp; omega, ?_⟩
        · exact ((ra.mono (r3.trans p3).ex (r3.trans p3).tups).append (Reps.cons p2 Reps.nil)).mono (Ext.refl _) o2
        · simpa only [R.bind_ok, R.bind_assoc, List.append_assoc, List.cons_append, List.nil_append] using p4
theorem s_lc (g : Gd C U cl X W) (hcm : C.calm = true) {elt cond : Ex} {t : Tv} {k : Ik} {its : Exs} {own : List (Str × Nat)} {tg it el : Expr} {ifs : List Expr} {scope : Scope} (hb : blkC C.N X.env.scope scope own = true) (hown : ∀ i ∈ tvIs t, i ∈ own.map (·.2)) (hns : notSet it = true)
    (hi : PI X tg it (rdI U W (srcRun cl k its)))
    (ht : ∀ (s : Shared) (H : Hp) (Cl : Addr) (cl' : List (Str × Addr)) (fp : List Addr), PG (X.blk s H scope (compEnvC scope cl' Cl X.env) fp) tg (gT X.K t))
    (he : ∀ X' : Cx, Gd C U cl X' (fun _ _ _ _ => False) → X'.env.scope = relS scope X.env.scope → PE X' el (rdE U (fun _ _ _ _ => False) (ev cl elt).1))
    (hc : ∀ X' : Cx, Gd C U cl X' (fun _ _ _ _ => False) → X'.env.scope = relS scope X.env.scope → (ifs = [] ∧ cond.isNop = true) ∨ (∃ i, ifs = [i] ∧ cond.isNop = false ∧ PT X' i (rdT U (fun _ _ _ _ => False) (ev cl cond).2))) :
    PE X (.ListComp el [⟨tg, it, ifs, 0⟩] scope pos) (rdE U W (ev cl (.lc elt t k its cond own)).1) ∧
    ∀ {i : Nat} {y : Str} {py spos : Pos}, X.N[i]? = some y → X.env.scope.names.lookup y = some .local → swapsWith (.ListComp el [⟨tg, it, ifs, 0⟩] scope pos) (some (.Name y py)) spos.line X.env = pure true →
      ∃ te, PS X (.Assign [.Name y py] (.ListComp el [⟨tg, it, ifs, 0⟩] scope pos) spos) (tAsg te (gName i)) ∧ ∀ σ H Q, rdE U W (ev cl (.lc elt t k its cond own)).1 σ H Q → te σ H Q := by
  obtain ⟨tt, htt, hrd⟩ := lc_parts (cl := cl) (W := W) (elt := elt) (k := k) (its := its) (tg := tg) (it := it) (el := el) g hcm hb hown hns hc
  have gb : ∀ (s : Shared) (H : Hp) (Cl : Addr) (cl' : List (Str × Addr)) (fp : List Addr), Gd C U cl (X.blk s H scope (compEnvC scope cl' Cl X.env) fp) (fun _ _ _ _ => False) := fun s H Cl cl' fp => g.blk hcm s H scope _ fp
  have okb : BlkOk X.N X.env.scope scope own := by rw [g.hN]; exact blkOk_by hb
  exact ⟨(pe_lc (g.calm hcm) g.nd hi okb (g := gT X.K t) ht htt (fun s H Cl cl' fp => he _ (gb s H Cl cl' fp) rfl) (fold_ok hns)).imp hrd,
    fun {i y py spos} hy hyl hsw => ⟨_, ps_setLc (g.calm hcm) g.nd hy hyl hsw hi okb (g := gT X.K t) ht htt (fun s H Cl cl' fp => he _ (gb s H Cl cl' fp) rfl) (fold_ok hns), hrd⟩⟩
/-! ### dict comprehensions -/
theorem length_setK {κ α : Type} [DecidableEq κ] (kvs : List (κ × α)) (k : κ) (v : α) : (setK kvs k v).length ≤ kvs.length + 1 := by
  unfold setK
  split <;> simp
theorem s_dc (g : Gd C U cl X W) (hcm : C.calm = true) {kx vx : Ex} {t : Tv} {k : Ik} {its : Exs} {own : List (Str × Nat)} {tg it el vl : Expr} {scope : Scope} (hb : blkC C.N X.env.scope scope own = true) (hown : ∀ i ∈ tvIs t, i ∈ own.map (·.2)) (hns : notSet it = true)
    (hi : PI X tg it (rdI U W (srcRun cl k its)))
    (ht : ∀ (s : Shared) (H : Hp) (Cl : Addr) (cl' : List (Str × Addr)) (fp : List Addr), PG (X.blk s H scope (compEnvC scope cl' Cl X.env) fp) tg (gT X.K t))
    (he : ∀ X' : Cx, Gd C U cl X' (fun _ _ _ _ => False) → X'.env.scope = relS scope X.env.scope → PE X' el (rdE U (fun _ _ _ _ => False) (ev cl kx).1))
    (hv : ∀ X' : Cx, Gd C U cl X' (fun _ _ _ _ => False) → X'.env.scope = relS scope X.env.scope → PE X' vl (rdE U (fun _ _ _ _ => False) (ev cl vx).1)) :
    PE X (.DictComp el vl [⟨tg, it, [], 0⟩] scope pos) (rdE U W (ev cl (.dc kx vx t k its own)).1) := by
  have gb : ∀ (s : Shared) (H : Hp) (Cl : Addr) (cl' : List (Str × Addr)) (fp : List Addr), Gd C U cl (X.blk s H scope (compEnvC scope cl' Cl X.env) fp) (fun _ _ _ _ => False) := fun s H Cl cl' fp => g.blk hcm s H scope _ fp
  have okb : BlkOk X.N X.env.scope scope own := by rw [g.hN]; exact blkOk_by hb
  refine (pe_dc (g.calm hcm) g.nd hi okb (g := gT X.K t) ht (fun s H Cl cl' fp => pts_nil) (fun s H Cl cl' fp => he _ (gb s H Cl cl' fp) rfl) (fun s H Cl cl' fp => hv _ (gb s H Cl cl' fp) rfl) (fold_ok hns)).imp fun σ H Q ⟨ι, s, τ, hs, hf, hp⟩ => ?_
  let G : Src → D → S → R (Key × D) := fun src d s => match asgV t d s (wipeF τ (own.map (·.2))) with
    | none => .bad
    | some τ' => (((ev cl kx).1 τ' s).calm).bind fun y s => (((ev cl vx).1 τ' s).calm).bind fun z s => match keyD y with
          | some k => .ok (k, z) s
          | none => .bad
  have hp : Post U (RD U) W σ ι H ((evs cl its τ s).bind fun ds s => match srcOf k ds s with
    | none => .bad
    | some src => if src.items.length < sizeLine then (dcS src.ok (G src) src.items s []).bind fun r s => new (.dct r) s else .bad) Q := hp
  have hp2 : Post U (RD U) W σ ι H ((srcRun cl k its τ s).bind fun src s => if src.items.length < sizeLine then (dcS src.ok (G src) src.items s []).bind fun r s => new (.dct r) s else .bad) Q := by
    unfold srcRun
    cases q : evs cl its τ s with
    | ok ds s' =>
      rw [q] at hp
      simp only [R.bind_ok] at hp ⊢
      cases q2 : srcOf k ds s' with
      | none => rw [q2] at hp; exact hp
      | some src => rw [q2] at hp; exact hp
    | exc c fs s' => rw [q] at hp; exact hp
    | bad => rw [q] at hp; exact hp
  refine ⟨ι, s, τ, hs, hf, (Post.bindF (rel := fun ι H src J => ItOk U ι H src J) hf hp2).imp fun J H1 ⟨ι1, s1, src, q1, q0, q2, _, q4⟩ => ?_⟩
  split at q4
  case isFalse => exact q4.elim
  rename_i hlen
  intro Dn nD
  refine ⟨fun i m H2 => ∃ ι2 s2 acc accV, RelS U ι2 s2 H2 ∧ Go ι1 H1 ι2 H2 ∧ Dn ∉ ι2 ∧ H2 Dn = some (.dK accV) ∧ RepF U.K ι2 H2 acc accV ∧ acc.length ≤ i ∧ i ≤ src.items.length ∧ m = src.items.length - i ∧
      Post U (RD U) W σ ι1 H1 ((dcS src.ok (G src) (src.items.drop i) s2 acc).bind fun r s => new (.dct r) s) Q, ⟨src.items.length, ι1, s1, [], [], q1.same (same_new nD), Go.same (same_new nD), q1.fresh nD, upd_same, rfl, Nat.le_refl _, Nat.zero_le _, by omega, by rw [List.drop_zero]; exact q4⟩, ?_⟩
  rintro i m H2 ⟨ι2, s2, acc, accV, hs2, go2, nm, hD, ra, hl1, hl2, rfl, post⟩
  cases ed : src.items.drop i with
  | nil =>
    have hi : src.items.length ≤ i := by simpa using ed
    rw [ed] at post
    unfold dcS at post
    split at post
    · rename_i ok
      refine .inl ⟨(q2 ι2 s2 H2 go2 hs2 ok i).2 hi, ?_⟩
      simp only [R.bind_ok] at post
      have go3 : Go ι1 H1 (ι2 ++ [Dn]) H2 := by
        obtain ⟨l, e, hl⟩ := go2.ext
        refine ⟨⟨l ++ [Dn], by rw [e, List.append_assoc], fun a ha => ?_⟩, go2.keep, go2.tups, go2.there, go2.fz⟩
        rcases List.mem_append.mp ha with ha | ha
        · exact hl a ha
        · have z : a = Dn := by simpa using ha
          rw [z]; exact nD
      have hs3 : RelS U (ι2 ++ [Dn]) (s2 ++ [.dct acc]) H2 := by
        refine ⟨by simp [hs2.len], fun n x e => ?_, fun n m a h1 h2 => ?_⟩
        · by_cases hn : n < s2.length
          · rw [List.getElem?_append_left hn] at e
            obtain ⟨a, h1, h2⟩ := hs2.ob n x e
            exact ⟨a, (Ext.one _ _).at h1, h2.same (Ext.one _ _) (Kept.refl _) (fun u z => z)⟩
          · have hl := (List.getElem?_eq_some_iff.mp e).1
            simp at hl
            have en : n = s2.length := by omega
            subst en
            simp at e
            subst e
            exact ⟨Dn, by rw [← hs2.len]; simp, accV, hD, ra.mono (Ext.one _ _) (Kept.refl _)⟩
        · have key : ∀ (k : Nat), (ι2 ++ [Dn])[k]? = some a → (ι2[k]? = some a ∧ a ≠ Dn) ∨ (k = ι2.length ∧ a = Dn) := by
            intro k e3
            by_cases hk' : k < ι2.length
            · rw [List.getElem?_append_left hk'] at e3
              exact .inl ⟨e3, fun z => nm (z ▸ List.mem_of_getElem? e3)⟩
            · have hl := (List.getElem?_eq_some_iff.mp e3).1
              simp at hl
              have : k = ι2.length := by omega
              refine .inr ⟨this, ?_⟩
              rw [this] at e3
              simp at e3
              exact e3.symm
          rcases key n h1 with ⟨a2, a3⟩ | ⟨a1, a2⟩ <;> rcases key m h2 with ⟨b2, b3⟩ | ⟨b1, b2⟩
          · exact hs2.inj n m a a2 b2
          · exact absurd b2 a3
          · exact absurd a2 b3
          · omega
      refine post (ι2 ++ [Dn]) H2 (.ref Dn) go3 hs3 ?_
      show Rep _ _ _ (.ref s2.length) _
      simp only [Rep]
      exact ⟨Dn, rfl, by rw [← hs2.len]; simp⟩
    · exact post.elim
  | cons d ds =>
    have hi : src.items[i]? = some d := by
      have := List.getElem?_drop (xs := src.items) (i := i) (j := 0)
      rw [ed] at this
      simpa using this.symm
    have hil : i < src.items.length := (List.getElem?_eq_some_iff.mp hi).1
    have ed2 : src.items.drop (i + 1) = ds := by
      have : src.items.drop (i + 1) = (src.items.drop i).drop 1 := by rw [List.drop_drop]
      rw [this, ed]; rfl
    rw [ed] at post
    unfold dcS at post
    split at post
    case isFalse => exact post.elim
    rename_i ok
    obtain ⟨jg, jy⟩ := (q2 ι2 s2 H2 go2 hs2 ok i).1 d hi
    refine .inr ⟨jg, fun H' => ∃ ι2 s2 acc accV, RelS U ι2 s2 H' ∧ Go ι1 H1 ι2 H' ∧ Dn ∉ ι2 ∧ H' Dn = some (.dK accV) ∧ RepF U.K ι2 H' acc accV ∧ acc.length ≤ i + 1 ∧
      Post U (RD U) W σ ι1 H1 ((dcS src.ok (G src) ds s2 acc).bind fun r s => new (.dct r) s) Q, fun H' ⟨ι2, s2, acc, accV, z1, z2, z3, z4, z5, z6, z7⟩ => ⟨src.items.length - (i + 1), by omega, ι2, s2, acc, accV, z1, z2, z3, z4, z5, z6, hil, rfl, by rw [ed2]; exact z7⟩, fun x H' hy => ?_⟩
    obtain ⟨gy, hs2, rx⟩ := jy x H' hy
    have go2 := go2.trans gy
    have hD := gy.keep _ _ hD nm
    have ra := ra.mono gy.ex gy.tups
    simp only [G] at post
    cases ea : asgV t d s2 (wipeF τ (own.map (·.2))) with
    | none => rw [ea] at post; exact post.elim
    | some τ' =>
      rw [ea] at post
      have hf2 : RelF U ι2 H' (wipeF τ (own.map (·.2))) (wipe σ (own.map (·.2))) := (wipeF_F (g.noexi hcm) (q0.mono go2.ex go2.tups) _)
      refine gT_ok g.hK hs2 (fun i _ => by rw [g.noexi hcm]; exact fun z => nomatch z) hf2 rx ea fun σ' hf3 hw => ⟨(hw _ hown).trans (wipe_wipe _), ?_⟩
      simp only [R.bind_assoc] at post
      unfold tYes
      simp only [if_true]
      refine ⟨ι2, s2, τ', hs2, hf3, (Post.calm (Post.bindG (rel := RD U) go2 post)).imp fun y H3 ⟨ι3, s3, y', p1, p2, p3, p4⟩ => ?_⟩
      have hD3 := p3.keep _ _ hD nm
      have nm3 := p3.notin hD nm
      refine ⟨ι3, s3, τ', p1, hf3.mono p3.ex p3.tups, (Post.calm (Post.bindG (rel := RD U) (go2.trans p3) p4)).imp fun z H4 ⟨ι4, s4, z', r1, r2, r3, r4⟩ => ?_⟩
      have hD4 := r3.keep _ _ hD3 nm3
      have nm4 := r3.notin hD3 nm3
      cases ek : keyD y' with
      | none => simp only [ek] at r4; exact r4.elim
      | some k =>
        simp only [ek] at r4
        have rl := ra.length
        refine ⟨accV, k, rep_key ek p2, hD4, by omega, ?_⟩
        obtain ⟨o1, o2⟩ := r1.off (o := .dK (putK accV k z)) nm4 hD4 (fun z => z)
        have hz := length_setK acc k z'
        refine ⟨ι4, s4, setK acc k z', putK accV k z, o1, ((go2.trans p3).trans r3).off nD o2, nm4, upd_same, ?_, by omega, ?_⟩
        · exact (RepF.put r2 (ra.mono (p3.trans r3).ex (p3.trans r3).tups)).mono (Ext.refl _) o2
        · simpa only [R.bind_ok, R.bind_assoc] using r4
end
end G

set_option Elab.async false
set_option linter.all false
set_option maxRecDepth 100000
set_option autoImplicit false
set_option maxHeartbeats 2000000
/-! G7: every checked expression. -/
namespace G
open PySem PySem.Spec PyProof.Rows L2
def isBool : Expr → Bool
  | .BoolOp _ _ _ => true
  | _ => false
def isLc : Expr → Bool
  | .ListComp _ _ _ _ => true
  | _ => false
structure SE (U : Su) (cl : CL) (X : Cx) (W : WX) (x : Ex) (e : Expr) : Prop where
  v : PE X e (rdE U W (ev cl x).1)
  t : PT X e (rdT U W (ev cl x).2)
  w : isBool e = true → PW X e (rdT U W (ev cl x).2)
  l : isLc e = true → ∀ {i : Nat} {y : Str} {py spos : Pos}, X.N[i]? = some y → X.env.scope.names.lookup y = some .local → swapsWith e (some (.Name y py)) spos.line X.env = pure true →
    ∃ te, PS X (.Assign [.Name y py] e spos) (tAsg te (gName i)) ∧ ∀ σ H Q, rdE U W (ev cl x).1 σ H Q → te σ H Q
section
variable {C : Ck} {U : Su} {cl : CL} {X : Cx} {W : WX} {e a b c : Expr} {pos : Pos}
/-- tested by its value -/
theorem SE.plain (g : Gd C U cl X W) {x : Ex} {v : Fr → S → R D} (hx : ev cl x = plainT v) (hv : byVal e = true) (hb : isBool e = false) (hl : isLc e = false) (h : PE X e (rdE U W (ev cl x).1)) : SE U cl X W x e :=
  ⟨h, by rw [hx] at h ⊢; exact pt_plain g.hK hv h, fun z => (by rw [hb] at z; cases z), fun z => (by rw [hl] at z; cases z)⟩
theorem SE.bad {x : Ex} (hx : (ev cl x).2 = fun _ _ => .bad) (hb : isBool e = false) (hl : isLc e = false) (h : PE X e (rdE U W (ev cl x).1)) : SE U cl X W x e :=
  ⟨h, ⟨fun pins s σ H Q I ⟨ι, st, τ, hs, hf, hp⟩ => by rw [hx] at hp; exact hp.elim⟩, fun z => (by rw [hb] at z; cases z), fun z => (by rw [hl] at z; cases z)⟩
/-- a target in a comprehension's block, in a def -/
theorem pg_tv {X : Cx} {sc : Scope} {t : Tv} {tg : Expr} (hN : X.N.Nodup) (hc : X.calm = true) (h : tvOk X.N sc t tg = true) (hf : ∀ n, locB sc n = true → Loc X.env.scope n ∧ (X.fn n = true ∨ X.env.scope.names.lookup n = some .local)) : PG X tg (gT X.K t) := by
  cases t with
  | var i =>
    simp only [tvOk] at h
    split at h
    · simp only [Bool.and_eq_true, decide_eq_true_eq] at h
      exact pg_name hN h.1 (hf _ h.2).1 (hf _ h.2).2
    · cases h
  | tup is =>
    simp only [tvOk] at h
    split at h
    case h_2 => cases h
    rename_i xs j p
    simp only [Bool.and_eq_true, decide_eq_true_eq] at h
    obtain ⟨h1, h2⟩ := h
    have key : ∀ (xs : List Expr) (is : List Nat), is.length = xs.length → (is.zip xs).all (fun p => match p.2 with | .Name n _ => decide (X.N[p.1]? = some n) && locB sc n | _ => false) = true →
        (∃ t, PGs X xs t ∧ ∀ vs σ H Q, vs.length = is.length → Q (setV is vs σ) H → t vs σ H Q) ∧ (assignEach xs X.env).length = xs.length ∧ (assignEach xs X.env).findIdx? (·.1) = none := by
      intro xs
      induction xs with
      | nil =>
        intro is hl _
        cases is with
        | cons _ _ => cases hl
        | nil => exact ⟨⟨_, pgs_nil, fun vs σ H Q hv hq => by
            cases vs with
            | nil => exact ⟨rfl, hq⟩
            | cons _ _ => cases hv⟩, rfl, rfl⟩
      | cons x xs ih =>
        intro is hl ha
        cases is with
        | nil => cases hl
        | cons i is =>
          simp only [List.zip_cons_cons, List.all_cons, Bool.and_eq_true] at ha
          obtain ⟨⟨t, ht, hq⟩, e1, e2⟩ := ih is (by simpa using hl) ha.2
          obtain ⟨n, q, rfl, ha1⟩ : ∃ n q, x = .Name n q ∧ (decide (X.N[i]? = some n) && locB sc n) = true := by
            have z := ha.1
            cases x <;> first | exact ⟨_, _, rfl, z⟩ | cases z
          simp only [Bool.and_eq_true, decide_eq_true_eq] at ha1
          refine ⟨⟨_, pgs_cons (pg_name hN ha1.1 (hf _ ha1.2).1 (hf _ ha1.2).2) ht rfl, fun vs σ H Q hv hq' => ?_⟩, by show (_ :: assignEach xs X.env).length = _; simp [e1], by show ((false, _) :: assignEach xs X.env).findIdx? _ = none; simp [List.findIdx?_cons, e2]⟩
          cases vs with
          | nil => cases hv
          | cons v vs => exact ⟨v, vs, rfl, hq vs _ H Q (by simpa using hv) hq'⟩
    obtain ⟨⟨t, ht, hq⟩, e1, e2⟩ := key xs is h1 h2
    have pg := pg_tup (n := is.length) (k := j) (pos := p) hc ht (by rw [e1, h1]) e2
    have pgl := pg_lst (n := is.length) (k := j) (pos := p) hc ht (by rw [e1, h1]) e2
    refine ⟨fun pins s σ H v u Q I r hw => ?_⟩
    obtain ⟨a, vs, rfl, q1 | q1, q2, q3⟩ := hw
    · exact pg.run pins s σ H _ u Q I r ⟨a, vs, rfl, q1, q2, hq vs σ H Q q2 q3⟩
    · exact pgl.run pins s σ H _ u Q I r ⟨a, vs, rfl, q1, q2, hq vs σ H Q q2 q3⟩
theorem and_ok {x y : Ex} {p q : Expr} {r : List Expr} (ha : SE U cl X W x p) (hb : match r with | [] => SE U cl X W y q | _ :: _ => SE U cl X W y (.BoolOp .And (q :: r) pos)) : SE U cl X W (.and x y) (.BoolOp .And (p :: q :: r) pos) := by
  cases r with
  | nil =>
    have hw : PW X (.BoolOp .And [p, q] pos) (rdT U W (ev cl (.and x y)).2) := (pw_and ha.t (pw_and1 hb.t)).imp rt_and
    exact ⟨(pe_and ha.v (pe_one hb.v)).imp rd_and, hw.pt, fun _ => hw, fun z => (nomatch z)⟩
  | cons z r =>
    have hw : PW X (.BoolOp .And (p :: q :: z :: r) pos) (rdT U W (ev cl (.and x y)).2) := (pw_and ha.t (hb.w rfl)).imp rt_and
    exact ⟨(pe_and ha.v hb.v).imp rd_and, hw.pt, fun _ => hw, fun z => (nomatch z)⟩
theorem or_ok {x y : Ex} {p q : Expr} {r : List Expr} (ha : SE U cl X W x p) (hb : match r with | [] => SE U cl X W y q | _ :: _ => SE U cl X W y (.BoolOp .Or (q :: r) pos)) : SE U cl X W (.or x y) (.BoolOp .Or (p :: q :: r) pos) := by
  cases r with
  | nil =>
    have hw : PW X (.BoolOp .Or [p, q] pos) (rdT U W (ev cl (.or x y)).2) := (pw_or ha.t (pw_or1 hb.t)).imp rt_or
    exact ⟨(pe_or ha.v (pe_one hb.v)).imp rd_or, hw.pt, fun _ => hw, fun z => (nomatch z)⟩
  | cons z r =>
    have hw : PW X (.BoolOp .Or (p :: q :: z :: r) pos) (rdT U W (ev cl (.or x y)).2) := (pw_or ha.t (hb.w rfl)).imp rt_or
    exact ⟨(pe_or ha.v hb.v).imp rd_or, hw.pt, fun _ => hw, fun z => (nomatch z)⟩
end
theorem blk_loc {scope sc : Scope} {n : Str} (h : locB scope n = true) : (relS scope sc).names.lookup n = scope.names.lookup n := by
  have hl := locB_ok h
  rcases hl with hl | hl
  · rw [hl]; exact lookup_relS_keep (by decide) hl
  · rw [hl]; exact lookup_relS_keep (by decide) hl
section
variable {C : Ck} {U : Su} {cl : CL} {X : Cx} {W : WX}
theorem tgt_ok (g : Gd C U cl X W) (hcm : C.calm = true) {t : Tv} {tg : Expr} {scope : Scope} {s : Shared} {H : Hp} {Cl : Addr} {cl' : List (Str × Addr)} {fp : List Addr} (h : tvOk C.N scope t tg = true) : PG (X.blk s H scope (compEnvC scope cl' Cl X.env) fp) tg (gT X.K t) := by
  refine pg_tv (X := X.blk s H scope (compEnvC scope cl' Cl X.env) fp) (sc := scope) g.nd (g.calm hcm) (by rw [← g.hN] at h; exact h) fun n hn => ?_
  have e := blk_loc (sc := X.env.scope) hn
  have e : (compEnvC scope cl' Cl X.env).scope.names.lookup n = scope.names.lookup n := e
  rcases locB_ok hn with hl | hl
  · exact ⟨.inl (e.trans hl), .inr (e.trans hl)⟩
  · refine ⟨.inr (e.trans hl), .inl ?_⟩
    show (scope.names.lookup n == some .cell) = true
    rw [hl]; rfl
end
mutual
theorem sndE (C : Ck) (U : Su) (cl : CL) : ∀ (x : Ex) (X : Cx) (W : WX) (e : Expr), Gd C U cl X W → okE C x X.env.scope e = true → SE U cl X W x e
  | .nop, X, W, e, g, h => by unfold okE at h; cases h
  | .var i, X, W, e, g, h => by
    unfold okE at h
    split at h
    · exact SE.plain g rfl rfl rfl rfl (s_var g h)
    · cases h
  | .cst c, X, W, e, g, h => by
    unfold okE at h
    split at h
    · exact SE.plain g rfl rfl rfl rfl (s_cst h)
    · cases h
  | .glob i, X, W, e, g, h => by
    unfold okE at h
    split at h
    · exact SE.plain g rfl rfl rfl rfl (s_glob g h)
    · cases h
  | .bin o a b, X, W, e, g, h => by
    unfold okE at h
    split at h
    case h_2 => cases h
    simp only [Bool.and_eq_true, decide_eq_true_eq] at h
    obtain ⟨⟨rfl, h1⟩, h2⟩ := h
    exact SE.plain g rfl rfl rfl rfl (s_bin g (sndE C U cl a X W _ g h1).v (sndE C U cl b X W _ g h2).v)
  | .neg a, X, W, e, g, h => by
    unfold okE at h
    split at h
    case h_2 => cases h
    exact SE.plain g rfl rfl rfl rfl (s_neg (sndE C U cl a X W _ g h).v)
  | .not a, X, W, e, g, h => by
    unfold okE at h
    split at h
    case h_2 => cases h
    have i := sndE C U cl a X W _ g h
    exact ⟨s_not i.v, t_not i.t, fun z => (nomatch z), fun z => (nomatch z)⟩
  | .and a b, X, W, e, g, h => by
    unfold okE at h
    split at h
    case h_2 => cases h
    rename_i p q r pos
    simp only [Bool.and_eq_true] at h
    refine and_ok (sndE C U cl a X W _ g h.1) ?_
    cases r with
    | nil => exact sndE C U cl b X W _ g h.2
    | cons z r => exact sndE C U cl b X W _ g h.2
  | .or a b, X, W, e, g, h => by
    unfold okE at h
    split at h
    case h_2 => cases h
    rename_i p q r pos
    simp only [Bool.and_eq_true] at h
    refine or_ok (sndE C U cl a X W _ g h.1) ?_
    cases r with
    | nil => exact sndE C U cl b X W _ g h.2
    | cons z r => exact sndE C U cl b X W _ g h.2
  | .cmp o a b, X, W, e, g, h => by
    unfold okE at h
    split at h
    case h_2 => cases h
    simp only [Bool.and_eq_true, decide_eq_true_eq, Bool.not_eq_true'] at h
    obtain ⟨⟨⟨rfl, h1⟩, h2⟩, h3⟩ := h
    have i := (sndE C U cl a X W _ g h1).v
    have j := (sndE C U cl b X W _ g h2).v
    exact ⟨s_cmp g i j h3, t_cmp g i j h3, fun z => (nomatch z), fun z => (nomatch z)⟩
  | .cmp2 o o' a b c, X, W, e, g, h => by
    unfold okE at h
    split at h
    case h_2 => cases h
    simp only [Bool.and_eq_true, decide_eq_true_eq, Bool.not_eq_true'] at h
    obtain ⟨⟨⟨⟨⟨rfl, rfl⟩, h1⟩, h2⟩, h3⟩, h4⟩ := h
    have i := (sndE C U cl a X W _ g h1).v
    have j := (sndE C U cl b X W _ g h2).v
    have k := (sndE C U cl c X W _ g h3).v
    exact ⟨s_cmp2 g i j k h4, t_cmp2 g i j k h4, fun z => (nomatch z), fun z => (nomatch z)⟩
  | .ife c a b, X, W, e, g, h => by
    unfold okE at h
    split at h
    case h_2 => cases h
    simp only [Bool.and_eq_true] at h
    exact SE.bad rfl rfl rfl (s_ife (sndE C U cl c X W _ g h.1.1).t (sndE C U cl a X W _ g h.1.2).v (sndE C U cl b X W _ g h.2).v)
  | .tup es, X, W, e, g, h => by
    unfold okE at h
    split at h
    case h_2 => cases h
    simp only [Bool.and_eq_true, decide_eq_true_eq] at h
    exact SE.plain g rfl rfl rfl rfl (s_tup (sndEs C U cl es X W _ g h.1) (by rw [okEs_len h.1]; exact h.2))
  | .lst es, X, W, e, g, h => by
    unfold okE at h
    split at h
    case h_2 => cases h
    simp only [Bool.and_eq_true, decide_eq_true_eq] at h
    exact SE.plain g rfl rfl rfl rfl (s_lst (sndEs C U cl es X W _ g h.1) (by rw [okEs_len h.1]; exact h.2))
  | .ix a i, X, W, e, g, h => by
    unfold okE at h
    split at h
    case h_2 => cases h
    simp only [Bool.and_eq_true] at h
    exact SE.plain g rfl rfl rfl rfl (s_ix g (sndE C U cl a X W _ g h.1.1).v (sndE C U cl i X W _ g h.1.2).v h.2)
  | .sl a lo hi, X, W, e, g, h => by
    unfold okE at h
    split at h
    case h_2 => cases h
    rename_i v l u p2 p
    simp only [Bool.and_eq_true] at h
    obtain ⟨⟨h1, h2⟩, h3⟩ := h
    refine SE.plain g rfl rfl rfl rfl (s_sl g (sndE C U cl a X W _ g h1).v (po_D ?_) (po_D ?_))
    · cases l with
      | none => exact h2
      | some l =>
        simp only [Bool.and_eq_true, Bool.not_eq_true'] at h2
        exact ⟨h2.1, (sndE C U cl lo X W _ g h2.2).v⟩
    · cases u with
      | none => exact h3
      | some l =>
        simp only [Bool.and_eq_true, Bool.not_eq_true'] at h3
        exact ⟨h3.1, (sndE C U cl hi X W _ g h3.2).v⟩
  | .call f es, X, W, e, g, h => by
    unfold okE at h
    split at h
    case h_2 => cases h
    simp only [Bool.and_eq_true, decide_eq_true_eq] at h
    exact SE.plain g rfl rfl rfl rfl (s_call g h.1.1.1.1 h.1.1.1.2 h.1.1.2 h.1.2 h.2 (sndEs C U cl es X W _ g h.2))
  | .blt b es, X, W, e, g, h => by
    unfold okE at h
    split at h
    case h_2 => cases h
    simp only [Bool.and_eq_true, decide_eq_true_eq] at h
    obtain ⟨⟨⟨⟨hc, rfl⟩, h1⟩, h2⟩, h3⟩ := h
    exact SE.plain g rfl rfl rfl rfl (s_blt g hc h1 h3 (sndEs C U cl es X W _ g h3))
  | .meth m o es, X, W, e, g, h => by
    unfold okE at h
    split at h
    case h_2 => cases h
    simp only [Bool.and_eq_true, decide_eq_true_eq] at h
    obtain ⟨⟨⟨⟨⟨rfl, h1⟩, h2⟩, h3⟩, h4⟩, h5⟩ := h
    exact SE.plain g rfl rfl rfl rfl (s_meth g h3 h4 h5 h2 (sndE C U cl o X W _ g h1).v (sndEs C U cl es X W _ g h2))
  | .lrg a, X, W, e, g, h => by
    unfold okE at h
    split at h
    case h_2 => cases h
    simp only [Bool.and_eq_true, decide_eq_true_eq] at h
    obtain ⟨⟨⟨⟨⟨⟨hc, rfl⟩, rfl⟩, h1⟩, h2⟩, h3⟩, h4⟩ := h
    exact SE.plain g rfl rfl rfl rfl (s_lrg g hc h1 h2 h3 (sndE C U cl a X W _ g h4).v)
  | .lrv a, X, W, e, g, h => by
    unfold okE at h
    split at h
    case h_2 => cases h
    simp only [Bool.and_eq_true, decide_eq_true_eq] at h
    obtain ⟨⟨⟨⟨⟨⟨hc, rfl⟩, rfl⟩, h1⟩, h2⟩, h3⟩, h4⟩ := h
    exact SE.plain g rfl rfl rfl rfl (s_lrv g hc h1 h2 h3 (sndE C U cl a X W _ g h4).v)
  | .oeq a b, X, W, e, g, h => by
    unfold okE at h
    split at h
    case h_2 => cases h
    simp only [Bool.and_eq_true, decide_eq_true_eq, Bool.not_eq_true'] at h
    obtain ⟨⟨⟨⟨hc, rfl⟩, h1⟩, h2⟩, h3⟩ := h
    have i := (sndE C U cl a X W _ g h1).v
    have j := (sndE C U cl b X W _ g h2).v
    exact ⟨s_oeq g hc i j h3, t_oeq g hc i j h3, fun z => (nomatch z), fun z => (nomatch z)⟩
  | .dct, X, W, e, g, h => by
    unfold okE at h
    split at h
    case h_2 => cases h
    exact SE.plain g rfl rfl rfl rfl s_dct
  | .fld a f, X, W, e, g, h => by
    unfold okE at h
    split at h
    case h_2 => cases h
    simp only [Bool.and_eq_true, decide_eq_true_eq] at h
    obtain ⟨⟨⟨h1, rfl⟩, h2⟩, h3⟩ := h
    exact SE.plain g rfl rfl rfl rfl (s_fld g h1 h3 (sndE C U cl a X W _ g h2).v)
  | .mc m o es, X, W, e, g, h => by
    unfold okE at h
    split at h
    case h_2 => cases h
    simp only [Bool.and_eq_true, decide_eq_true_eq] at h
    obtain ⟨⟨⟨⟨⟨⟨hc, rfl⟩, h1⟩, h2⟩, h3⟩, h4⟩, h5⟩ := h
    exact SE.plain g rfl rfl rfl rfl (s_mc g hc h3 h4 h5 h2 (sndE C U cl o X W _ g h1).v (sndEs C U cl es X W _ g h2))
  | .mk c es, X, W, e, g, h => by
    unfold okE at h
    split at h
    case h_2 => cases h
    simp only [Bool.and_eq_true, decide_eq_true_eq] at h
    obtain ⟨⟨⟨⟨⟨hc, rfl⟩, _⟩, h1⟩, h2⟩, h3⟩ := h
    exact SE.plain g rfl rfl rfl rfl (s_mk g hc h1 h2 h3 (sndEs C U cl es X W _ g h3))
  | .isc a c, X, W, e, g, h => by
    unfold okE at h
    split at h
    case h_2 => cases h
    simp only [Bool.and_eq_true, decide_eq_true_eq] at h
    obtain ⟨⟨⟨⟨⟨⟨⟨⟨⟨hc, rfl⟩, h1⟩, h2⟩, rfl⟩, _⟩, h3⟩, h4⟩, h5⟩, h6⟩ := h
    exact SE.plain g rfl rfl rfl rfl (s_isc g hc h1 h3 h4 h6 (sndE C U cl a X W _ g h5).v)
  | .efld i f, X, W, e, g, h => by
    unfold okE at h
    split at h
    case h_2 => cases h
    simp only [Bool.and_eq_true, decide_eq_true_eq, Bool.not_eq_true'] at h
    obtain ⟨⟨⟨⟨hc, rfl⟩, h1⟩, h2⟩, h3⟩ := h
    exact SE.plain g rfl rfl rfl rfl ((g.xs hc).1 i _ _ _ _ h1 h2 h3)
  | .eis i c, X, W, e, g, h => by
    unfold okE at h
    split at h
    case h_2 => cases h
    simp only [Bool.and_eq_true, decide_eq_true_eq, Bool.not_eq_true'] at h
    obtain ⟨⟨⟨⟨⟨⟨⟨⟨⟨hc, rfl⟩, h1⟩, h2⟩, rfl⟩, h3⟩, h4⟩, h5⟩, h6⟩, h7⟩ := h
    exact SE.plain g rfl rfl rfl rfl ((g.xs hc).2 i _ _ _ _ _ _ h5 h6 h7 h1 h3 h4)
  | .dc kx vx t k its own, X, W, e, g, h => by
    unfold okE at h
    split at h
    case h_2 => cases h
    rename_i el vl tg it asy scope pos
    simp only [Bool.and_eq_true, decide_eq_true_eq] at h
    obtain ⟨⟨⟨⟨⟨⟨⟨⟨hcm, rfl⟩, h1⟩, h2⟩, h3⟩, h4⟩, h5⟩, h6⟩, h7⟩ := h
    have hown : ∀ i ∈ tvIs t, i ∈ own.map (·.2) := fun i hi => by
      have := (List.all_eq_true.mp h3) i hi
      simpa using this
    refine SE.plain g rfl rfl rfl rfl (s_dc (W := W) (kx := kx) (vx := vx) (k := k) (its := its) (tg := tg) (it := it) (pos := pos) g hcm h1 hown h4 ?_ (fun s H Cl cl' fp => ?_) (fun X' g' e' => ?_) (fun X' g' e' => ?_))
    · cases k with
      | seq =>
        simp only [] at h7
        split at h7
        · exact i_seq g (sndE C U cl _ X W _ g h7).v
        · cases h7
      | rng1 =>
        simp only [] at h7
        split at h7
        · simp only [Bool.and_eq_true, decide_eq_true_eq] at h7
          obtain ⟨⟨rfl, h8⟩, h9⟩ := h7
          exact i_rng1 g h8 h9 (sndEs C U cl its X W _ g h9)
        · cases h7
      | rng2 =>
        simp only [] at h7
        split at h7
        · simp only [Bool.and_eq_true, decide_eq_true_eq] at h7
          obtain ⟨⟨rfl, h8⟩, h9⟩ := h7
          exact i_rng2 g h8 h9 (sndEs C U cl its X W _ g h9)
        · cases h7
      | items => cases h7
    · exact tgt_ok g hcm h2
    · exact (sndE C U cl kx X' _ _ g' (by rw [e']; exact h5)).v
    · exact (sndE C U cl vx X' _ _ g' (by rw [e']; exact h6)).v
  | .isi a t, X, W, e, g, h => by
    unfold okE at h
    split at h
    case h_2 => cases h
    simp only [Bool.and_eq_true, decide_eq_true_eq] at h
    obtain ⟨⟨⟨⟨⟨⟨⟨rfl, h1⟩, h2⟩, rfl⟩, h3⟩, h4⟩, h5⟩, h6⟩ := h
    exact SE.plain g rfl rfl rfl rfl (s_isi g h1 h3 h6 (sndE C U cl a X W _ g h5).v)
  | .lc elt t k its cond own, X, W, e, g, h => by
    unfold okE at h
    split at h
    case h_2 => cases h
    rename_i el tg it ifs asy scope pos
    simp only [Bool.and_eq_true, decide_eq_true_eq] at h
    obtain ⟨⟨⟨⟨⟨⟨⟨⟨hcm, rfl⟩, h1⟩, h2⟩, h3⟩, h4⟩, h5⟩, h6⟩, h7⟩ := h
    have hown : ∀ i ∈ tvIs t, i ∈ own.map (·.2) := fun i hi => by
      have := (List.all_eq_true.mp h3) i hi
      simpa using this
    have z := s_lc (W := W) (elt := elt) (cond := cond) (k := k) (its := its) (tg := tg) (it := it) (el := el) (ifs := ifs) (pos := pos) g hcm h1 hown h4 ?_ (fun s H Cl cl' fp => ?_) (fun X' g' e' => ?_) (fun X' g' e' => ?_)
    · exact ⟨z.1, pt_plain g.hK rfl z.1, fun z => (nomatch z), fun _ => z.2⟩
    · cases k with
      | seq =>
        simp only [] at h7
        split at h7
        · exact i_seq g (sndE C U cl _ X W _ g h7).v
        · cases h7
      | rng1 =>
        simp only [] at h7
        split at h7
        · simp only [Bool.and_eq_true, decide_eq_true_eq] at h7
          obtain ⟨⟨rfl, h8⟩, h9⟩ := h7
          exact i_rng1 g h8 h9 (sndEs C U cl its X W _ g h9)
        · cases h7
      | rng2 =>
        simp only [] at h7
        split at h7
        · simp only [Bool.and_eq_true, decide_eq_true_eq] at h7
          obtain ⟨⟨rfl, h8⟩, h9⟩ := h7
          exact i_rng2 g h8 h9 (sndEs C U cl its X W _ g h9)
        · cases h7
      | items => cases h7
    · refine pg_tv (X := X.blk s H scope (compEnvC scope cl' Cl X.env) fp) (sc := scope) g.nd (g.calm hcm) (by rw [← g.hN] at h2; exact h2) fun n hn => ?_
      have e := blk_loc (sc := X.env.scope) hn
      have e : (compEnvC scope cl' Cl X.env).scope.names.lookup n = scope.names.lookup n := e
      rcases locB_ok hn with hl | hl
      · exact ⟨.inl (e.trans hl), .inr (e.trans hl)⟩
      · refine ⟨.inr (e.trans hl), .inl ?_⟩
        show (scope.names.lookup n == some .cell) = true
        rw [hl]; rfl
    · exact (sndE C U cl elt X' _ _ g' (by rw [e']; exact h5)).v
    · cases ifs with
      | nil => exact .inl ⟨rfl, h6⟩
      | cons i ifs =>
        cases ifs with
        | cons _ _ => cases h6
        | nil =>
          simp only [Bool.and_eq_true, Bool.not_eq_true'] at h6
          exact .inr ⟨i, rfl, h6.1, (sndE C U cl cond X' _ _ g' (by rw [e']; exact h6.2)).t⟩
theorem sndEs (C : Ck) (U : Su) (cl : CL) : ∀ (es : Exs) (X : Cx) (W : WX) (xs : List Expr), Gd C U cl X W → okEs C es X.env.scope xs = true → PA X xs (rdA U W (evs cl es))
  | .nil, X, W, xs, g, h => by
    unfold okEs at h
    cases xs with
    | cons _ _ => cases h
    | nil => exact pa_nil.imp fun σ H Q ⟨ι, s, τ, hs, hf, hp⟩ => hp ι H [] (Go.refl _ _) hs Reps.nil
  | .cons e es, X, W, xs, g, h => by
    unfold okEs at h
    split at h
    case h_2 => cases h
    rename_i y ys
    simp only [Bool.and_eq_true] at h
    refine (pa_cons (sndE C U cl e X W _ g h.1.2).v (sndEs C U cl es X W _ g h.2) (star_cons h.1.1)).imp fun σ H Q ⟨ι, s, τ, hs, hf, hp⟩ => ?_
    refine ⟨ι, s, τ, hs, hf, (Post.bindF (rel := RD U) hf hp).imp fun v H1 ⟨ι, s, d, q1, q0, q2, _, q4⟩ => ?_⟩
    refine ⟨ι, s, τ, q1, q0, (Post.bindF (rel := RDs U) q0 q4).imp fun vs H2 ⟨ι, s, ds, r1, r0, r2, r3, r4⟩ => ?_⟩
    exact r4 ι H2 (v :: vs) (Go.refl _ _) r1 (Reps.cons (q2.mono r3.ex r3.tups) r2)
end
end G

set_option Elab.async false
set_option linter.all false
set_option maxRecDepth 100000
set_option autoImplicit false
set_option maxHeartbeats 2000000
/-! GX: own errors: their making, their fields, isinstance of them. -/
namespace G
open PySem PySem.Spec PyProof.Rows L2
section
variable {X : Cx}
/-- Base.__init__(self, ..), Base an own class without own __init__ -/
theorem pe_binit {CE : Addr} {x : Str} {e : Expr} {es : List Expr} {ta : TA} {p1 p2 pos : Pos} (hg : Gl X x) (hd : (x == ("__debug__" : Str)) = false) (hm : X.mg x = some (.ref CE)) (h1 : PySem.W.specialIn X.K (.ref CE) "__getattribute__" = some (some (.builtin "type.__getattribute__")))
    (h2 : PySem.W.readsIn X.K CE (.type "type") = true) (h3 : PySem.W.findCls X.K (.ref CE) (.type "type") "__init__" = some (.val (.builtin "ValueError.__init__"))) (ha : PA X (e :: es) ta) (hl : (p2.endLine == pos.line) = true)
    (hf : ((backTo pos (starEach (e :: es) X.env)).all (fun x => !x.1) && (backToKw pos (keywordEach [] X.env)).all (fun x => x.1.isSome) && decide ((e :: es).length + ([] : List Keyword).length + (if ([] : List Keyword).isEmpty then 0 else 1) < 30)) = true)
    (he : starEach (e :: es) X.env = (false, eval e X.env) :: starEach es X.env) (hpl : (backTo pos (starEach es X.env)).any (·.1) = false) :
    PE X (.Call (.Attribute (.Name x p1) "__init__" p2) (e :: es) [] pos) (tVeI X.K ta) := by
  refine ⟨fun pins s σ H Q I h => ?_⟩
  refine callAttr rfl hf hl (ld_glob I hg hm (fun pl => ?_) hd)
  refine PySem.W.method_cls I.kIn h1 (PySem.W.cls_value I.kIn h2 h3 (by decide +kernel) ?_)
  refine PyProof.Rows.callWith_method1 (thn (ha.run pos pins _ σ H _ (I.tok _) h) fun us s1 ⟨vs, H1, I1, r1, a, C, ws, ev, hz, T, ea, q⟩ => ?_) he hpl
  subst ev
  cases r1 with
  | @cons _ u0 _ ur ra rw' =>
    cases (show u0 = Value.ref a from ra)
    exact oinit_ok T I1 ea (by rw [← Paired.length rw', sizeLine_eq]; omega) fun s' J => ⟨.non, H1, J, rfl, q⟩
end
/-! ### the body of an own error's __init__ -/
def asOk (N : List Str) (sc : Scope) (f : Str) (i : Nat) (st : Stmt) : Bool := match st with
  | .Assign [.Attribute (.Name s0 _) f' _] (.Name p _) _ => decide (f' = f) && decide (N[0]? = some s0) && visB sc s0 && nmB s0 && decide (N[i]? = some p) && visB sc p && nmB p
  | _ => false
def okAs (N : List Str) (sc : Scope) : List Stmt → List Str → Nat → Bool
  | [], fs, _ => fs.isEmpty
  | _ :: _, [], _ => false
  | st :: r, f :: fs, i => asOk N sc f i st && okAs N sc r fs (i + 1)
def baseOk (N : List Str) (sc : Scope) (ce : Str) (st : Stmt) : Bool := match st with
  | .Expr (.Call (.Attribute (.Name x _) at_ apos) [.Name s0 _, .Constant (.str _) _ _] [] pos) _ => decide (x = ce) && decide (at_ = "__init__") && glB sc ce && nmB ce && decide (N[0]? = some s0) && visB sc s0 && nmB s0 && (apos.endLine == pos.line)
  | _ => false
def okInit (N : List Str) (sc : Scope) (ce : Str) (fields : List Str) : List Stmt → Bool
  | st :: r => baseOk N sc ce st && okAs N sc r fields 1
  | [] => false
theorem asOk_inv {N : List Str} {sc : Scope} {f : Str} {i : Nat} {st : Stmt} (h : asOk N sc f i st = true) : ∃ s0 p0 p1 p p2 p3, st = .Assign [.Attribute (.Name s0 p0) f p1] (.Name p p2) p3 ∧ N[0]? = some s0 ∧ visB sc s0 = true ∧ nmB s0 = true ∧ N[i]? = some p ∧ visB sc p = true ∧ nmB p = true := by
  unfold asOk at h
  split at h
  · simp only [Bool.and_eq_true, decide_eq_true_eq] at h
    obtain ⟨⟨⟨⟨⟨⟨rfl, n0⟩, v0⟩, m0⟩, n1⟩, v1⟩, m1⟩ := h
    exact ⟨_, _, _, _, _, _, rfl, n0, v0, m0, n1, v1, m1⟩
  · cases h
theorem baseOk_inv {N : List Str} {sc : Scope} {ce : Str} {st : Stmt} (h : baseOk N sc ce st = true) : ∃ p1 apos s0 p0 y j p2 pos q, st = .Expr (.Call (.Attribute (.Name ce p1) "__init__" apos) [.Name s0 p0, .Constant (.str y) j p2] [] pos) q ∧
    glB sc ce = true ∧ nmB ce = true ∧ N[0]? = some s0 ∧ visB sc s0 = true ∧ nmB s0 = true ∧ (apos.endLine == pos.line) = true := by
  unfold baseOk at h
  split at h
  · simp only [Bool.and_eq_true, decide_eq_true_eq] at h
    obtain ⟨⟨⟨⟨⟨⟨⟨rfl, rfl⟩, h1⟩, h2⟩, h3⟩, h4⟩, h5⟩, h6⟩ := h
    exact ⟨_, _, _, _, _, _, _, _, _, rfl, h1, h2, h3, h4, h5, h6⟩
  · cases h
section
variable {X : Cx}
theorem upd_id {H : Hp} {a : Addr} {o : HO} (h : H a = some o) : upd H a o = H := by
  funext b
  by_cases hb : b = a
  · rw [hb, upd_same, h]
  · rw [upd_ne hb]
theorem upd_comm {H : Hp} {a b : Addr} {o u : HO} (h : a ≠ b) : upd (upd H a o) b u = upd (upd H b u) a o := by
  funext c
  by_cases h1 : c = a
  · rw [h1, upd_ne h, upd_same, upd_same]
  · by_cases h2 : c = b
    · rw [h2, upd_same, upd_ne (Ne.symm h), upd_same]
    · rw [upd_ne h2, upd_ne h1, upd_ne h1, upd_ne h2]
theorem upd_two {H : Hp} {a : Addr} {o u : HO} : upd (upd H a o) a u = upd H a u := by
  funext c
  by_cases h1 : c = a
  · rw [h1, upd_same, upd_same]
  · rw [upd_ne h1, upd_ne h1, upd_ne h1]
theorem as_run {N : List Str} (hN : X.N = N) : ∀ (rest : List Stmt) (fields : List Str) (i : Nat), okAs N X.env.scope rest fields i = true → ∃ t, PSs X rest t ∧
    ∀ (D : Ends) (σ : L2.St) (H : Hp) (a C dx : Addr) (fs : List (Str × V)) (ws : List V), σ[0]? = some (some (.ref a)) → (∀ j w, ws[j]? = some w → σ[i + j]? = some (some w)) → ws.length = fields.length → OexC X.K C → (∀ f ∈ fields, PySem.W.findIn X.K (.ref C) f = some none) → dx ≠ a →
      H a = some (exo a C (some dx)) → H dx = some (exd dx fs) → fs.length + fields.length ≤ 900 → D.nx σ (upd H dx (exd dx ((fields.zip ws).reverse ++ fs))) → t D σ H
  | [], fields, i, h => ⟨_, pss_nil, fun D σ H a C dx fs ws h0 h1 h2 T hf nd ha hd hl q => by
      have e : fields = [] := List.isEmpty_iff.mp h
      subst e
      have q : D.nx σ (upd H dx (exd dx fs)) := q
      rw [upd_id hd] at q
      exact q⟩
  | _ :: _, [], _, h => by cases h
  | st :: r, f :: fs0, i, h => by
    unfold okAs at h
    rw [Bool.and_eq_true] at h
    obtain ⟨s0, p0, p1, p, p2, p3, rfl, n0, v0, m0, n1, v1, m1⟩ := asOk_inv h.1
    obtain ⟨t, ht, hq⟩ := as_run hN r fs0 (i + 1) h.2
    have ho : PE X (.Name s0 p0) (tVar 0) := pe_var (by rw [hN]; exact n0) (visB_ok v0) (nmB_ok m0).1 (nmB_ok m0).2.1
    have hv : PE X (.Name p p2) (tVar i) := pe_var (by rw [hN]; exact n1) (visB_ok v1) (nmB_ok m1).1 (nmB_ok m1).2.1
    refine ⟨_, pss_cons (ps_ost ho hv) ht, fun D σ H a C dx fs ws h0 h1 h2 T hf nd ha hd hl q => ?_⟩
    cases ws with
    | nil => cases h2
    | cons w ws =>
      refine ⟨w, by simpa using h1 0 w rfl, .ref a, h0, a, C, rfl, T, hf _ List.mem_cons_self, .inr ⟨dx, fs, ha, hd, by simp at hl; omega, ?_⟩⟩
      refine hq D σ _ a C dx ((_, w) :: fs) ws h0 (fun j x e => by have := h1 (j + 1) x (by simpa using e); rw [show i + 1 + j = i + (j + 1) by omega]; exact this) (by simpa using h2) T (fun g hg => hf g (List.mem_cons_of_mem _ hg)) nd (by rw [upd_ne (Ne.symm nd)]; exact ha) upd_same (by simp at hl ⊢; omega) ?_
      rw [upd_two]
      simpa using q
/-- the whole body -/
theorem init_run {N : List Str} {ce : Str} {CE : Addr} (hN : X.N = N) (hm : X.mg ce = some (.ref CE)) (b1 : PySem.W.specialIn X.K (.ref CE) "__getattribute__" = some (some (.builtin "type.__getattribute__"))) (b2 : PySem.W.readsIn X.K CE (.type "type") = true)
    (b3 : PySem.W.findCls X.K (.ref CE) (.type "type") "__init__" = some (.val (.builtin "ValueError.__init__"))) {body : List Stmt} {f : Str} {fields : List Str} (h : okInit N X.env.scope ce (f :: fields) body = true) : ∃ t, PSs X body t ∧
    ∀ (D : Ends) (σ : L2.St) (H : Hp) (a C : Addr) (ws : List V), σ[0]? = some (some (.ref a)) → (∀ j w, ws[j]? = some w → σ[1 + j]? = some (some w)) → ws.length = fields.length + 1 → OexC X.K C → (∀ g ∈ f :: fields, PySem.W.findIn X.K (.ref C) g = some none) →
      H a = some (exo a C none) → fields.length ≤ 800 → (∀ dx, H dx = none → dx ≠ a → D.nx σ (upd (upd H dx (exd dx ((f :: fields).zip ws).reverse)) a (exo a C (some dx)))) → t D σ H := by
  cases body with
  | nil => cases h
  | cons st r =>
    unfold okInit at h
    rw [Bool.and_eq_true] at h
    obtain ⟨p1, apos, s0, p0, y, jj, p2, pos, q, rfl, g1, g2, g3, g4, g5, g6⟩ := baseOk_inv h.1
    have hs : PE X (.Name s0 p0) (tVar 0) := pe_var (by rw [hN]; exact g3) (visB_ok g4) (nmB_ok g5).1 (nmB_ok g5).2.1
    have hb := pe_binit (e := .Name s0 p0) (es := [.Constant (.str y) jj p2]) (p1 := p1) (p2 := apos) (pos := pos) (glB_ok g1) (nmB_ok g2).1 hm b1 b2 b3 (pa_cons hs (pa_cons pe_str pa_nil)) g6 rfl rfl rfl
    cases r with
    | nil => cases h.2
    | cons st2 r =>
      have h2 := h.2
      unfold okAs at h2
      rw [Bool.and_eq_true] at h2
      obtain ⟨s1, q0, q1, p, q2, q3, rfl, n0, v0, m0, n1, v1, m1⟩ := asOk_inv h2.1
      obtain ⟨t, ht, hq⟩ := as_run hN r fields 2 h2.2
      have ho : PE X (.Name s1 q0) (tVar 0) := pe_var (by rw [hN]; exact n0) (visB_ok v0) (nmB_ok m0).1 (nmB_ok m0).2.1
      have hv : PE X (.Name p q2) (tVar 1) := pe_var (by rw [hN]; exact n1) (visB_ok v1) (nmB_ok m1).1 (nmB_ok m1).2.1
      refine ⟨_, pss_cons (ps_expr hb rfl) (pss_cons (ps_ost ho hv) ht), fun D σ H a C ws h0 h1 h2 T hf ha hl hq2 => ?_⟩
      cases ws with
      | nil => cases h2
      | cons w ws =>
        refine ⟨.ref a, h0, a, C, [.str y], rfl, by simp, T, ha, ?_⟩
        refine ⟨w, by simpa using h1 0 w rfl, .ref a, h0, a, C, rfl, T, hf _ List.mem_cons_self, .inl ⟨ha, fun dx nd ne => ?_⟩⟩
        refine hq D σ _ a C dx [(f, w)] ws h0 (fun j x e => by have := h1 (j + 1) x (by simpa using e); rw [show 2 + j = 1 + (j + 1) by omega]; exact this) (by simpa using h2) T (fun g hg => hf g (List.mem_cons_of_mem _ hg)) ne upd_same (by rw [upd_ne ne]; exact upd_same) (by simp; omega) ?_
        have z := hq2 dx nd ne
        rw [upd_comm (Ne.symm ne), upd_two]
        simpa using z
end
/-! ### the making of an own error -/
/-- what its __init__ keeps -/
def spX (K : PySem.W.Frag) (C : Addr) (fields : List Str) : Sp := fun vs H Q _ => ∃ a ws, vs = .ref a :: ws ∧ ws.length = fields.length ∧ H a = some (exo a C none) ∧
  ∀ dx, H dx = none → dx ≠ a → Q .non (upd (upd H dx (exd dx (fields.zip ws).reverse)) a (exo a C (some dx)))
/-- an error's class, made with its fields -/
def RseOk (X : Cx) (C : Addr) (c : Str) (fields : List Str) : Prop := ∀ (p pos : Pos) (y : Expr) (ys : List Expr) (t : TA), (∀ σ H Q Q', (∀ vs H, Q vs H → Q' vs H) → t σ H Q → t σ H Q') → Gl X c → (c == ("__debug__" : Str)) = false → PA X (y :: ys) t →
  starEach (y :: ys) X.env = (false, eval y X.env) :: starEach ys X.env → (backTo pos (starEach ys X.env)).any (·.1) = false →
  PMk X (.Call (.Name c p) (y :: ys) [] pos) (fun σ H Q => t σ H fun vs H1 => vs.length = fields.length ∧ ∀ dx, H1 dx = none → Q (.ref C) (some dx) (upd H1 dx (.xd (fields.zip vs).reverse)))
theorem rse_ok {X : Cx} {C fI : Addr} {c : Str} {fields : List Str} {fd : FuncData} {ps : List Str} {k : Nat} (T : OexC X.K C) (iC : PySem.W.findIn X.K (.ref C) "__init__" = some (some (.ref fI))) (tI : PySem.W.typeIn X.K (.ref fI) = some (.type "function"))
    (F : FnOk X.prog X.w X.K X.mg X.base (L2.CX X.prog X.w) k fI fd ps (spX X.K C fields)) (hr : Room (k + 1) X.A) (hb : Binds X.K fd ps []) (hm : X.mg c = some (.ref C)) (hl : fields.length ≤ 800) : RseOk X C c fields := by
  intro p pos y ys t mono hg hd ha he hpl pins s σ H Q I h
  refine (pmk_oex T iC tI F hr hb .nil passL hg hm ha hd he hpl) pins s σ H Q I (mono _ _ _ _ (fun vs H1 ⟨h1, h2⟩ => ?_) h)
  refine ⟨by omega, fun a na => ⟨a, vs, by rw [List.append_nil], h1, upd_same, fun dx nd ne => ⟨rfl, dx, (fields.zip vs).reverse, upd_same, by rw [upd_ne ne]; exact upd_same, ?_, ?_⟩⟩⟩
  · rw [upd_ne ne] at nd; exact nd
  · have nd1 : H1 dx = none := by rw [upd_ne ne] at nd; exact nd
    have e : upd (del (upd (upd (upd H1 a (exo a C none)) dx (exd dx (fields.zip vs).reverse)) a (exo a C (some dx))) a) dx (.xd (fields.zip vs).reverse) = upd H1 dx (.xd (fields.zip vs).reverse) := by
      funext b
      by_cases hb : b = dx
      · rw [hb, upd_same, upd_same]
      · rw [upd_ne hb, upd_ne hb]
        by_cases hba : b = a
        · rw [hba, del_same, na]
        · rw [del_ne hba, upd_ne hba, upd_ne hb, upd_ne hba]
    rw [e]
    exact h2 dx nd1
/-! ### isinstance of a caught error that may have fields -/
section
open PySem.W PySem.Calls
variable {prog : Program} {w : World} {A : Around} {E : Value → Shared → Prop} {s : Shared} {K : Frag} {x Dc : Addr} {ox : Obj} {od : Option Obj}
theorem fnd_data {name : Str} {a g : Value} (hc : (clsIn K Dc).isSome = true) (ha : findIn K (.ref Dc) name = some (some a)) (hg : specialIn K a "__get__" = some (some g)) (ht : takesIn K a = some true) : findObj K Dc od name = some (.bind g a) := by
  obtain ⟨cd, h1⟩ := Option.isSome_iff_exists.mp hc
  unfold findObj
  rw [h1, Option.bind_some, ha, Option.bind_some]
  simp [hg, ht]
theorem cls_attr {Q : Option Value → Shared → Prop} (C : ExcC K Dc) (X : K.In s.heap) (I : InstAt s.heap x ox Dc od) (h : Q (some (.ref Dc)) { s with toks := s.toks + 1 }) : wpAny (model prog w) A (getAttr? (.ref x) "__class__") Q E s := by
  have hf : findObj K Dc od "__class__" = some (.bind (.builtin "getset_descriptor.__get__") (.builtin "object.__class__")) := fnd_data (by obtain ⟨cd, hc, _⟩ := any_some C.hd; rw [hc]; rfl) C.ha C.hn C.ht
  obtain ⟨hp, g, d, t, os⟩ := s
  have T0 := I.type (M := model prog w)
  have T1 := looks_findIn (M := model prog w) X C.hg
  have T2 := looks_findIn (M := model prog w) X C.hk
  have T3 := looks_find (M := model prog w) X I hf
  have sb : Looks (model prog w) hp (isInstance (.ref x) (.type "BaseException")) true := T0.andThen (looks_subIn X C.hs)
  have n0 : (false && onTheHeap (Value.builtin "BaseException.__getattribute__")) = false := rfl
  have n1 : (onTheHeap (Value.ref Dc) && Value.builtin "BaseException.__getattribute__" == Value.builtin "object.__getattribute__") = false := by
    rw [show (Value.builtin "BaseException.__getattribute__" == Value.builtin "object.__getattribute__") = false by decide +kernel]; rfl
  unfold getAttr? getAttrBy? getAttrBy
  refine wpAny_bind (wpAny_mkText (wpAny_bind (wpAny_attempt (wpAny_holding (wpAny_bind (T0.at (wpAny_bind (T1.at ?_))))))))
  show wpAny _ _ (if (onTheHeap (Value.ref Dc) && Value.builtin "BaseException.__getattribute__" == Value.builtin "object.__getattribute__") = true then _ else _) _ _ _
  rw [n1, if_neg Bool.false_ne_true]
  unfold getAttrByItsOwn hookBefore
  refine wpAny_bind ?_
  rw [if_pos (show onTheHeap (Value.ref Dc) = true from rfl)]
  refine T2.at ?_
  refine wpAny_bind (wpAny_attempt (wpAny_holding ?_))
  unfold callGetattribute
  rw [n0, if_neg Bool.false_ne_true]
  unfold boundAndCalled
  rw [PySem.F.excAttr_ValueError.ga.bind (.ref x)]
  refine wpAny_bind (wpAny_pure ?_)
  show wpAny _ _ (call (.builtin "BaseException.__getattribute__") [.ref x, .str "__class__" t]) _ _ _
  refine wpAny_call (codeAny_call_builtin PySem.F.excAttr_ValueError.ga.plain PySem.F.entry_bexc_ga ?_)
  refine @check_slot (model prog w) _ _ ⟨hp, g, d, t + 1, os⟩ "BaseException.__getattribute__" "BaseException" "__getattribute__" (.ref x) [.str "__class__" t] [] _ (by decide +kernel) (by decide +kernel) sb (PySem.F.args_bexc_ga (.ref x) (.str "__class__" t)) ?_
  unfold Builtin.«object.__getattribute__»
  refine wpAny_bind (wpAny_of_eq (a := ((Value.ref x : Value), [Value.str "__class__" t])) (by first | rfl | (simp only [slotArgs]; rfl)) ?_)
  refine wpAny_bind (wpAny_pure (wpAny_bind (T0.at (wpAny_bind (T3.at ?_)))))
  show wpAny _ _ (holding [Value.builtin "object.__class__"] (call (.builtin "getset_descriptor.__get__") [.builtin "object.__class__", .ref x, .ref Dc]) >>= ret) _ _ _
  refine wpAny_bind (wpAny_holding (wpAny_call (class_get (s := ⟨hp, g, d, t + 1, os⟩) (ox := ox) (od := od) X I C.hm ?_)))
  refine wpAny_pure ?_
  show wpAny _ _ (handedOut (.ref Dc)) _ _ _
  rw [handedOut_of (v := .ref Dc) rfl]
  first
    | exact wpAny_pure (wpAny_pure h)
    | exact wpAny_pure h
    | exact wpAny_pure (wpAny_bind (wpAny_pure (wpAny_pure h)))
theorem kit_exc (C : ExcC K Dc) : KitX K (.ref x) (.ref Dc) (fun h => ∃ ox od, InstAt h x ox Dc od) where
  ty := fun _ _ _ ⟨_, _, I⟩ => I.type
  it := fun _ _ X _ => by
    obtain ⟨cd, hc, _⟩ := any_some C.hd
    unfold clsIn at hc
    split at hc
    · rename_i c' d' cd' sl' ho
      intro A' Q' E' s' k q
      unfold isType loadHead
      exact wpAny_bind (wpAny_loadPart (k _ _ (X _ _ ho)) (wpAny_pure q))
    · cases hc
  ne := fun h tp dd its n sl X htp => by
    obtain ⟨cd, hc, _⟩ := any_some C.hd
    refine Bool.eq_false_iff.mpr fun q => ?_
    cases Value.ref.inj (beq_iff_eq.mp q)
    unfold clsIn at hc
    split at hc
    · rename_i c' d' cd' sl' ho
      cases (X _ _ ho).symm.trans htp
    · cases hc
  ca := fun X ⟨_, _, I⟩ k => cls_attr C X I k
end
theorem call_isX {X : Cx} {a Dc : Addr} {oe : Obj} {pn : List (Addr × Obj)} {d : Option Addr} (C : ExcC X.K Dc) (hz : Zc (.ref Dc) d oe) (hf : ∃ vs, oe.data = .fields vs) : CallR (X.suite a ((a, oe) :: pn)) (.builtin "isinstance")
    (fun xs H Q => (d = none ∨ ∃ dd fs, d = some dd ∧ H dd = some (.xd fs)) ∧ rIsE X.K Dc a xs H Q) := by
  intro pins s σ H xs us Q I r ⟨hd, c, cv, b, ex, hcv, e, q⟩
  subst ex
  obtain ⟨u, u2, rfl, rx, rt⟩ := r.two
  cases rx
  cases hcv _ rt
  obtain ⟨hget, _⟩ := I.pin (a, oe) (List.mem_append.mpr (.inl List.mem_cons_self))
  obtain ⟨vs, hv⟩ := hf
  have J : ∃ ox od, PySem.W.InstAt s.heap a ox Dc od := by
    obtain ⟨oc, oda, odat, osl⟩ := oe
    obtain ⟨h1, h2⟩ := hz
    dsimp only at h1 h2 hv
    subst h1 h2 hv
    rcases hd with rfl | ⟨dd, fs, rfl, hx⟩
    · exact ⟨_, none, hget, rfl, rfl, trivial⟩
    · obtain ⟨mA, ⟨o, _, _, ho, _⟩, _⟩ := (show ObjOk X.prog X.w H s.heap dd (.xd fs) from I.hok dd _ hx)
      exact ⟨_, some o, hget, rfl, rfl, ho⟩
  exact PySem.W.kia_one (kit_exc C) I.kIn J e (fun z => nomatch z) fun tk => ⟨.bl b, H, I.kept (t' := tk) fun _ _ z => z, rfl, q⟩
end G

set_option Elab.async false
set_option linter.all false
set_option maxRecDepth 100000
set_option autoImplicit false
set_option maxHeartbeats 2000000
/-! G8: statements and defs. -/
namespace G
open PySem PySem.Spec PyProof.Rows L2
def rdS (U : Su) (W : WX) (m : Fr → S → SR) : TS := fun D σ H => ∃ ι s τ, RelS U ι s H ∧ RelF U ι H τ σ ∧ PostS U W D ι H (m τ s)
theorem _root_.L2.PS.imp {X : Cx} {e : Stmt} {t t' : TS} (h : PS X e t) (i : ∀ D σ H, t' D σ H → t D σ H) : PS X e t' := ⟨fun pins s σ H Q I q => h.run pins s σ H Q I (i _ _ _ q)⟩
theorem _root_.L2.PSs.imp {X : Cx} {e : List Stmt} {t t' : TS} (h : PSs X e t) (i : ∀ D σ H, t' D σ H → t D σ H) : PSs X e t' := ⟨fun pins s σ H Q I q => h.run pins s σ H Q I (i _ _ _ q)⟩
section
variable {U : Su} {W : WX} {σ : L2.St} {ι ι' : List Addr} {H H' : Hp} {E E' : Ends}
theorem PostS.imp {r : SR} (h : PostS U W E ι H r) (h1 : ∀ σ H, E.nx σ H → E'.nx σ H) (h2 : ∀ v H, E.rt v H → E'.rt v H) (h3 : ∀ σ H, E.bk σ H → E'.bk σ H) (h4 : ∀ σ H, E.ct σ H → E'.ct σ H) : PostS U W E' ι H r := by
  cases r with
  | bad => exact h
  | exc τ c fs s => exact h
  | nx τ s => exact fun a b c d e f => h1 _ _ (h a b c d e f)
  | rt τ s => exact fun a b c d e f => h2 _ _ (h a b c d e f)
  | bk τ s => exact fun a b c d e f => h3 _ _ (h a b c d e f)
  | ct τ s => exact fun a b c d e f => h4 _ _ (h a b c d e f)
theorem PostS.nx {τ : Fr} {s : S} (h : PostS U W E ι H (.nx τ s)) (hs : RelS U ι s H) (hf : RelF U ι H τ σ) : E.nx σ H := h ι H σ (Go.refl _ _) hs hf
/-- a loop's body -/
theorem PostS.turn {N : L2.St → Hp → Prop} {r : SR} {f : Fr → S → SR} (h : PostS U W E ι H (match r with | .nx τ s => f τ s | .ct τ s => f τ s | .bk τ s => .nx τ s | .rt d s => .rt d s | .exc τ c fs s => .exc τ c fs s | .bad => .bad))
    (hN : ∀ ι' s' τ' σ' H', Go ι H ι' H' → RelS U ι' s' H' → RelF U ι' H' τ' σ' → PostS U W E ι' H' (f τ' s') → N σ' H') : PostS U W { nx := N, rt := E.rt, bk := E.nx, ct := N } ι H r := by
  cases r with
  | bad => exact h
  | exc τ c fs s => exact h
  | nx τ s => exact fun a b c d e g => hN a s τ c b d e g (PostS.mono d h)
  | rt τ s => exact h
  | bk τ s => exact h
  | ct τ s => exact fun a b c d e g => hN a s τ c b d e g (PostS.mono d h)
end

/-! ### the check -/
def notTup : Expr → Bool
  | .Tuple _ _ _ => false
  | .List _ _ => false
  | _ => true
def notComp : Expr → Bool
  | .ListComp _ _ _ _ => false
  | .SetComp _ _ _ _ => false
  | .DictComp _ _ _ _ _ => false
  | _ => true
/-- name = value: is the value's comprehension stored by the block itself, or not at all -/
def swapB (sc : Scope) (n : Str) (p : Pos) : Expr → Bool
  | .ListComp _ _ scope pos => (match sc.names.lookup n with | some .local => true | _ => false) && (p.line == pos.line) && !(scope.names.any fun (m, k) => m == n && (k == .local || k == .cell))
  | _ => false
def okAsn (C : Ck) (sc : Scope) (as : Option Nat) (nm : Option Str) : Bool := match as, nm with
  | some i, some n => decide (C.N[i]? = some n) && (match sc.names.lookup n with | some .local => true | _ => false)
  | none, none => true
  | _, _ => false
/-- items are walked into a pair -/
def itTg : Ik → Expr → Bool
  | .items, .Tuple _ _ _ => true
  | .items, _ => false
  | _, _ => true
mutual
def okC : Ck → Cm → Scope → Stmt → Bool
  | C, .asg t e, sc, x => (match x with
    | .Assign [tg] v _ => okE C e sc v && (match t, tg with
      | .loc (.var i), .Name n p => decide (C.exi ≠ some i) && decide (C.N[i]? = some n) && locB sc n && (notComp v || (match v with | .ListComp _ _ _ _ => true | _ => false))
      | .loc (.tup is), .Tuple ts j p => C.calm && tvOk C.N sc (.tup is) (.Tuple ts j p) && notTup v && notComp v
      | .sub o i, .Subscript b k _ => okE C o sc b && okE C i sc k && notSlice k && notComp v
      | .fld o f, .Attribute b f' _ => C.calm && decide (f' = f) && okE C o sc b
      | _, _ => false)
    | _ => false)
  | C, .ite c a b, sc, x => (match x with
    | .If t p q _ => okE C c sc t && okCs C a sc p && okCs C b sc q
    | _ => false)
  | C, .for_ t k its body, sc, x => (match x with
    | .For tg it bd [] _ => C.calm && tvOk C.N sc t tg && (okIt C k its sc it && itTg k tg) && notSet it && okCs C body sc bd
    | _ => false)
  | C, .whl c body, sc, x => (match x with
    | .While t bd [] _ => okE C c sc t && okCs C body sc bd
    | _ => false)
  | C, .ret e, sc, x => (match x with
    | .Return (some v) _ => okE C e sc v
    | _ => false)
  | _, .retn, _, x => (match x with
    | .Return none _ => true
    | _ => false)
  | C, .expr e, sc, x => (match x with
    | .Expr v _ => okE C e sc v && notComp v
    | _ => false)
  | _, .pass, _, x => (match x with
    | .Pass _ => true
    | _ => false)
  | _, .brk, _, x => (match x with
    | .Break _ => true
    | _ => false)
  | _, .cont, _, x => (match x with
    | .Continue _ => true
    | _ => false)
  | C, .rse c es, sc, x => (match x with
    | .Raise (some (.Call (.Name n _) (y :: ys) [] _)) none _ => C.calm && decide (n = c) && glB sc n && nmB n && okEs C es sc (y :: ys)
    | _ => false)
  | C, .try_ body hs, sc, x => (match x with
    | .Try bd hds [] [] _ => C.calm && okCs C body sc bd && okHs C hs sc hds
    | _ => false)
  | C, .lk _ c, sc, x => okC C c sc x
def okCs : Ck → Cms → Scope → List Stmt → Bool
  | _, .nil, _, xs => xs.isEmpty
  | C, .cons c cs, sc, xs => (match xs with
    | x :: xs => okC C c sc x && okCs C cs sc xs
    | [] => false)
def okHs : Ck → Hs → Scope → List ExceptHandler → Bool
  | _, .nil, _, _ => false
  | C, .cons c as suite r, sc, xs => (match r, xs with
    | .nil, [.ExceptHandler (some (.Name x _)) nm (b0 :: st) _] => decide (x = c) && glB sc x && nmB x && okAsn C sc as nm && okCs { C with calm := false, exi := as } suite sc (b0 :: st)
    | _, _ => false)
end
theorem noSwap {v : Expr} {t : Option Expr} {l : Nat} {env : Env} (h : notComp v = true) : swapsWith v t l env = pure false := by
  cases v <;> first | rfl | cases h
theorem noStores {tg v : Expr} {env : Env} (h : notTup v = true) : swappedStores [tg] v env = pure none := by
  cases tg <;> cases v <;> first | rfl | cases h

theorem noSwapA {v o : Expr} {f : Str} {p : Pos} {l : Nat} {env : Env} : swapsWith v (some (.Attribute o f p)) l env = pure false := by
  cases v <;> rfl
/-- an own class of errors -/
structure EcOk (X : Cx) (U : Su) (cl : CL) (c : Str) (e : Ec) : Prop where
  mg : X.mg c = some (.ref (U.cad c))
  mke : e.fields.length ≤ 800 ∧ ∃ (fI : Addr) (fd : FuncData) (ps : List Str) (k : Nat), OexC X.K (U.cad c) ∧ PySem.W.findIn X.K (.ref (U.cad c)) "__init__" = some (some (.ref fI)) ∧ PySem.W.typeIn X.K (.ref fI) = some (.type "function") ∧
    FnOk X.prog X.w X.K X.mg X.base (L2.CX X.prog X.w) k fI fd ps (spX X.K (U.cad c) e.fields) ∧ Room (k + 1) X.A ∧ Binds X.K fd ps []
  exm : ∀ x e2, cl.ecl x = some e2 → PySem.W.exmOne X.K (.ref (U.cad x)) (.ref (U.cad c)) = some (e2.sups.contains c)
  xf : XfC X.K (U.cad c)
  no : ∀ f, e.fields.contains f = true → PySem.W.findIn X.K (.ref (U.cad c)) f = some none
  ex : ExcC X.K (U.cad c)
  kit : ∀ x e2, cl.ecl x = some e2 → PySem.W.kitOne X.K (.ref (U.cad x)) (.ref (U.cad c)) = some (e2.sups.contains c)
  ve : PySem.W.kitOne X.K (.ref (U.cad c)) (.type "ValueError") = some (e.sups.contains "ValueError")
  cb : ∃ CE, X.mg "CappedError" = some (.ref CE) ∧ PySem.W.kitOne X.K (.ref (U.cad c)) (.ref CE) = some (e.sups.contains "CappedError")
theorem EcOk.rse {X : Cx} {U : Su} {cl : CL} {c : Str} {e : Ec} (z : EcOk X U cl c e) : RseOk X (U.cad c) c e.fields := by
  obtain ⟨h0, fI, fd, ps, k, h1, h2, h3, h4, h5, h6⟩ := z.mke
  exact rse_ok h1 h2 h3 h4 h5 h6 z.mg h0
/-- within a def: names may be stored -/
structure Gs (C : Ck) (U : Su) (cl : CL) (X : Cx) (W : WX) : Prop extends Gd C U cl X W where
  fn : ∀ n, X.fn n = true
  kind : X.env.scope.kind = .function
  stk : X.stack = X.env :: X.outer
  frm : X.env.frame = some X.env.locals
  ecl : C.calm = true → ∀ c e, cl.ecl c = some e → EcOk X U cl c e
section
variable {C : Ck} {U : Su} {cl : CL} {X : Cx} {W : WX}
theorem c_asg1 (g : Gs C U cl X W) {i : Nat} (hx : C.exi ≠ some i) {e : Ex} {n : Str} {v : Expr} {p pos : Pos} (hi : C.N[i]? = some n) (hl : locB X.env.scope n = true) (hv : (notComp v || (match v with | .ListComp _ _ _ _ => true | _ => false)) = true) (h : SE U cl X W e v) :
    PS X (.Assign [.Name n p] v pos) (rdS U W (ex cl (.asg (.loc (.var i)) e))) := by
  have hi' : X.N[i]? = some n := by rw [g.hN]; exact hi
  have fin : ∀ te : TE, (∀ σ H Q, rdE U W (ev cl e).1 σ H Q → te σ H Q) → ∀ D σ H, rdS U W (ex cl (.asg (.loc (.var i)) e)) D σ H → tAsg te (gName i) D σ H := by
    rintro te hte D σ H ⟨ι, s, τ, hs, hf, hp⟩
    refine hte _ _ _ ⟨ι, s, τ, hs, hf, (PostS.toS (rel := RD U) hf hp).imp fun x H1 ⟨ι1, s1, d, q1, q2, q3, _, q4⟩ => ?_⟩
    exact PostS.nx (τ := τ.set i (some d)) (s := s1) q4 q1 (q3.set (by rw [g.exi]; exact hx) q2)
  by_cases hc : notComp v = true
  · exact (ps_set g.nd hi' (locB_ok hl) h.v (noSwap hc) (.inl (g.fn n))).imp (fin _ fun _ _ _ z => z)
  · cases v <;> first
      | (exact absurd rfl hc)
      | (rename_i el gs scope q
         by_cases hw : X.env.scope.names.lookup n = some .local ∧ (p.line == q.line) = true ∧ (scope.names.any fun (m, k) => m == n && (k == .local || k == .cell)) = false
         · obtain ⟨te, h1, h2⟩ := h.l rfl (py := p) (spos := pos) hi' hw.1 (sw_true g.kind hw.1 hw.2.1 hw.2.2)
           exact h1.imp (fin _ h2)
         · refine (ps_set g.nd hi' (locB_ok hl) h.v ?_ (.inl (g.fn n))).imp (fin _ fun _ _ _ z => z)
           have hb : X.env.blockKind = .function := by unfold Env.blockKind; rw [g.kind]; rfl
           have : (X.env.blockKind == .function && X.env.kindOf n == some .local && p.line == q.line && !(scope.names.any fun (m, k) => m == n && (k == .local || k == .cell))) = false := by
             rw [Bool.eq_false_iff]
             intro z
             simp only [Bool.and_eq_true, Bool.not_eq_true'] at z
             exact hw ⟨beq_iff_eq.mp z.1.1.2, z.1.2, z.2⟩
           show (pure _ : Sem Bool) = pure false
           exact congrArg pure this)
      | cases hv
theorem c_asgT (g : Gs C U cl X W) (hcm : C.calm = true) {is : List Nat} {e : Ex} {tg v : Expr} {pos : Pos} (ht : tvOk C.N X.env.scope (.tup is) tg = true) (h1 : notTup v = true) (h2 : notComp v = true) (hst : ∃ ts j p, tg = .Tuple ts j p) (h : SE U cl X W e v) :
    PS X (.Assign [tg] v pos) (rdS U W (ex cl (.asg (.loc (.tup is)) e))) := by
  have pg : PG X tg (gT X.K (.tup is)) := pg_tv (sc := X.env.scope) g.nd (g.calm hcm) (by rw [g.hN]; exact ht) fun n hn => ⟨locB_ok hn, .inl (g.fn n)⟩
  refine (ps_asg h.v pg (by show swapsWith _ _ _ _ = _; exact noSwap h2) (noStores h1) (by obtain ⟨ts, j, p, rfl⟩ := hst; rfl)).imp fun D σ H ⟨ι, s, τ, hs, hf, hp⟩ => ?_
  refine ⟨ι, s, τ, hs, hf, (PostS.toS (rel := RD U) hf hp).imp fun x H1 ⟨ι1, s1, d, q1, q2, q3, _, q4⟩ => ?_⟩
  simp only [store] at q4
  split at q4
  · rename_i τ' ea
    exact gT_ok g.hK q1 (fun i _ => by rw [g.noexi hcm]; exact fun z => nomatch z) q3 q2 ea fun σ' hf' _ => q4.nx q1 hf'
  · exact q4.elim
theorem c_sub (g : Gs C U cl X W) {o i e : Ex} {b k v : Expr} {p pos : Pos} (hn : notSlice k = true) (h2 : notComp v = true) (ho : SE U cl X W o b) (hi : SE U cl X W i k) (h : SE U cl X W e v) :
    PS X (.Assign [.Subscript b k p] v pos) (rdS U W (ex cl (.asg (.sub o i) e))) := by
  have pg : PG X (.Subscript b k p) _ := pg_sub ho.v hi.v (set_D (U := U) (by have := g.hu; omega)) (by intro w; cases k <;> first | rfl | cases hn)
  refine (ps_asg h.v pg (by unfold swapsWithSole; exact noSwap h2) (by cases v <;> rfl) rfl).imp fun D σ H ⟨ι, s, τ, hs, hf, hp⟩ => ?_
  refine ⟨ι, s, τ, hs, hf, (PostS.toS (rel := RD U) hf hp).imp fun x H1 ⟨ι1, s1, d, q1, q2, q3, _, q4⟩ => ?_⟩
  simp only [store] at q4
  refine ⟨ι1, s1, τ, q1, q3, (PostS.toS (rel := RD U) q3 q4).imp fun xo H2 ⟨ι2, s2, d2, r1, r2, r3, r4, r5⟩ => ?_⟩
  refine ⟨ι2, s2, τ, r1, r3, (PostS.toS (rel := RD U) r3 r5).imp fun xi H3 ⟨ι3, s3, d3, p1, p2, p3, p4, p5⟩ => ?_⟩
  split at p5
  · rename_i s' e3
    exact ⟨ι3, s3, d2, d3, d, s', p1, r2.mono p4.ex p4.tups, p2, q2.mono (r4.trans p4).ex (r4.trans p4).tups, e3, fun H' go hs' => p5 ι3 H' σ go hs' (p3.mono go.ex go.tups)⟩
  · exact p5.elim
theorem c_ite {c : Ex} {a b : Cms} {t : Expr} {p q : List Stmt} {pos : Pos} (hc : SE U cl X W c t) (ha : PSs X p (rdS U W (exs cl a))) (hb : PSs X q (rdS U W (exs cl b))) : PS X (.If t p q pos) (rdS U W (ex cl (.ite c a b))) := by
  refine PS.imp (ps_if hc.t ha hb) fun D σ H ⟨ι, s, τ, hs, hf, hp⟩ => ?_
  refine ⟨ι, s, τ, hs, hf, (PostS.toS (rel := RB) hf hp).imp fun x H1 ⟨ι1, s1, d, q1, q2, q3, _, q4⟩ => ?_⟩
  rw [show x = d from q2]
  cases d with
  | true => rw [if_pos rfl] at q4 ⊢; exact ⟨ι1, s1, τ, q1, q3, q4⟩
  | false => rw [if_neg Bool.false_ne_true] at q4 ⊢; exact ⟨ι1, s1, τ, q1, q3, q4⟩
theorem c_for (g : Gs C U cl X W) (hcm : C.calm = true) {t : Tv} {k : Ik} {its : Exs} {body : Cms} {tg it : Expr} {bd : List Stmt} {pos : Pos} (ht : tvOk C.N X.env.scope t tg = true) (hn : notSet it = true) (hi : PI X tg it (rdI U W (srcRun cl k its))) (hb : PSs X bd (rdS U W (exs cl body))) :
    PS X (.For tg it bd [] pos) (rdS U W (ex cl (.for_ t k its body))) := by
  have pg : PG X tg (gT X.K t) := pg_tv (sc := X.env.scope) g.nd (g.calm hcm) (by rw [g.hN]; exact ht) fun n hn => ⟨locB_ok hn, .inl (g.fn n)⟩
  refine PS.imp (ps_for g.po (g.calm hcm) hi pg hb (fold_ok hn)) fun En σ H ⟨ι, s, τ, hs, hf, hp⟩ => ?_
  let B : D → Fr → S → SR := fun d τ s => match asgV t d s τ with
    | none => .bad
    | some τ' => exs cl body τ' s
  have hp : PostS U W En ι H ((evs cl its τ s).toS τ fun ds s => match srcOf k ds s with
    | none => .bad
    | some src => forS src.ok B src.items τ s) := hp
  have hp2 : PostS U W En ι H ((srcRun cl k its τ s).toS τ fun src s => forS src.ok B src.items τ s) := by
    unfold srcRun
    cases q : evs cl its τ s with
    | ok ds s' =>
      rw [q] at hp
      simp only [R.toS_ok, R.bind_ok] at hp ⊢
      cases q2 : srcOf k ds s' with
      | none => rw [q2] at hp; exact hp
      | some src => rw [q2] at hp; exact hp
    | exc c fs s' => rw [q] at hp; exact hp
    | bad => rw [q] at hp; exact hp
  refine ⟨ι, s, τ, hs, hf, (PostS.toS (rel := fun ι H src J => ItOk U ι H src J) hf hp2).imp fun J H1 ⟨ι1, s1, src, q1, q2, q0, _, q4⟩ => ?_⟩
  refine ⟨fun i m σ2 H2 => ∃ ι2 s2 τ2, RelS U ι2 s2 H2 ∧ RelF U ι2 H2 τ2 σ2 ∧ Go ι1 H1 ι2 H2 ∧ i ≤ src.items.length ∧ m = src.items.length - i ∧ PostS U W En ι2 H2 (forS src.ok B (src.items.drop i) τ2 s2),
    ⟨src.items.length, ι1, s1, τ, q1, q0, Go.refl _ _, Nat.zero_le _, by omega, by rw [List.drop_zero]; exact q4⟩, ?_⟩
  rintro i m σ2 H2 ⟨ι2, s2, τ2, hs2, hf2, go2, hl2, rfl, post⟩
  cases ed : src.items.drop i with
  | nil =>
    have hi : src.items.length ≤ i := by simpa using ed
    rw [ed] at post
    unfold forS at post
    split at post
    · rename_i ok
      exact .inl ⟨(q2 ι2 s2 H2 go2 hs2 ok i).2 hi, post.nx hs2 hf2⟩
    · exact post.elim
  | cons d ds =>
    have hi : src.items[i]? = some d := by
      have := List.getElem?_drop (xs := src.items) (i := i) (j := 0)
      rw [ed] at this
      simpa using this.symm
    have hil : i < src.items.length := (List.getElem?_eq_some_iff.mp hi).1
    have ed2 : src.items.drop (i + 1) = ds := by
      have : src.items.drop (i + 1) = (src.items.drop i).drop 1 := by rw [List.drop_drop]
      rw [this, ed]; rfl
    rw [ed] at post
    unfold forS at post
    split at post
    case isFalse => exact post.elim
    rename_i ok
    obtain ⟨jg, jy⟩ := (q2 ι2 s2 H2 go2 hs2 ok i).1 d hi
    refine .inr ⟨jg, fun σ' H' => ∃ ι2 s2 τ2, RelS U ι2 s2 H' ∧ RelF U ι2 H' τ2 σ' ∧ Go ι1 H1 ι2 H' ∧ PostS U W En ι2 H' (forS src.ok B ds τ2 s2),
      fun σ' H' ⟨ι2, s2, τ2, z1, z2, z3, z4⟩ => ⟨src.items.length - (i + 1), by omega, ι2, s2, τ2, z1, z2, z3, hil, rfl, by rw [ed2]; exact z4⟩, fun x H' hy => ?_⟩
    obtain ⟨gy, hs2, rx⟩ := jy x H' hy
    have go2 := go2.trans gy
    have hf2 := hf2.mono gy.ex gy.tups
    have post := PostS.mono gy post
    simp only [B] at post
    cases ea : asgV t d s2 τ2 with
    | none => rw [ea] at post; exact post.elim
    | some τ' =>
      rw [ea] at post
      refine gT_ok g.hK hs2 (fun i _ => by rw [g.noexi hcm]; exact fun z => nomatch z) hf2 rx ea fun σ' hf3 _ => ⟨ι2, s2, τ', hs2, hf3, ?_⟩
      exact PostS.turn post fun ι' s' τ' σ' H' go hs' hf' pp => ⟨ι', s', τ', hs', hf', go2.trans go, pp⟩
theorem c_whl (g : Gs C U cl X W) {c : Ex} {body : Cms} {t : Expr} {bd : List Stmt} {pos : Pos} (hc : SE U cl X W c t) (hb : PSs X bd (rdS U W (exs cl body))) : PS X (.While t bd [] pos) (rdS U W (ex cl (.whl c body))) := by
  refine PS.imp (ps_while g.po hc.t hb) fun D σ H ⟨ι, s, τ, hs, hf, hp⟩ => ?_
  refine ⟨fun m σ2 H2 => ∃ ι2 s2 τ2, RelS U ι2 s2 H2 ∧ RelF U ι2 H2 τ2 σ2 ∧ PostS U W D ι2 H2 (whS (evT cl c) (exs cl body) m τ2 s2), ⟨whTop, ι, s, τ, hs, hf, hp⟩, ?_⟩
  rintro m σ2 H2 ⟨ι2, s2, τ2, hs2, hf2, post⟩
  cases m with
  | zero => exact post.elim
  | succ m =>
    unfold whS at post
    refine ⟨ι2, s2, τ2, hs2, hf2, (PostS.toS (rel := RB) hf2 post).imp fun x H1 ⟨ι1, s1, d, q1, q2, q3, _, q4⟩ => ?_⟩
    rw [show x = d from q2]
    cases d with
    | true =>
      rw [if_pos rfl] at q4 ⊢
      refine ⟨fun σ' H' => ∃ ι2 s2 τ2, RelS U ι2 s2 H' ∧ RelF U ι2 H' τ2 σ' ∧ PostS U W D ι2 H' (whS (evT cl c) (exs cl body) m τ2 s2), fun σ' H' z => ⟨m, Nat.lt_succ_self m, z⟩, ι1, s1, τ2, q1, q3, ?_⟩
      exact PostS.turn q4 fun ι' s' τ' σ' H' go hs' hf' pp => ⟨ι', s', τ', hs', hf', pp⟩
    | false =>
      rw [if_neg Bool.false_ne_true] at q4 ⊢
      exact q4.nx q1 q3
theorem setF_put {K : PySem.W.Frag} {ι : List Addr} {H : Hp} {f : Str} {d : D} {v : V} (r : Rep K ι H d v) : ∀ {fs : List (Str × D)} {vs : List (Str × V)}, RepF K ι H fs vs → RepF K ι H (setF f d fs) (putF f v vs)
  | [], _, h => by cases (show _ = [] from h); exact ⟨v, [], rfl, r, rfl⟩
  | p :: fs, _, h => by
    obtain ⟨u, ws, rfl, h1, h2⟩ := h
    obtain ⟨g, x⟩ := p
    unfold setF putF
    by_cases e : g = f
    · rw [if_pos e, if_pos e]; exact ⟨v, ws, rfl, r, h2⟩
    · rw [if_neg e, if_neg e]; exact ⟨u, _, rfl, h1, setF_put r h2⟩
theorem c_fld (g : Gs C U cl X W) (hcm : C.calm = true) {o e : Ex} {b v : Expr} {f : Str} {p pos : Pos} (ho : SE U cl X W o b) (h : SE U cl X W e v) : PS X (.Assign [.Attribute b f p] v pos) (rdS U W (ex cl (.asg (.fld o f) e))) := by
  refine PS.imp (ps_fld ho.v h.v noSwapA) fun D σ H ⟨ι, s, τ, hs, hf, hp⟩ => ?_
  refine ⟨ι, s, τ, hs, hf, (PostS.toS (rel := RD U) hf hp).imp fun x H1 ⟨ι1, s1, d, q1, q2, q3, _, q4⟩ => ?_⟩
  have q4 : PostS U W D ι1 H1 ((evE cl o τ s1).toS τ fun x s => match setA cl x f d s with
    | some s' => .nx τ s'
    | none => .bad) := q4
  refine ⟨ι1, s1, τ, q1, q3, (PostS.toS (rel := RD U) q3 q4).imp fun xo H2 ⟨ι2, s2, d2, r1, r2, r3, r4, r5⟩ => ?_⟩
  split at r5
  case h_2 => exact r5.elim
  rename_i s' e3
  unfold setA at e3
  split at e3
  case h_2 => cases e3
  rename_i n _ _ _
  split at e3
  case h_2 => cases e3
  rename_i c fs e4
  split at e3
  case h_2 => cases e3
  rename_i k e5
  split at e3
  case isFalse => cases e3
  rename_i hc
  cases e3
  simp only [Rep] at r2
  obtain ⟨a, rfl, ia⟩ := r2
  obtain ⟨dx, vs, h1, h2⟩ := r1.at e4 ia
  have z := g.cls c k e5 hcm
  have lf : vs.length = fs.length := h2.length
  refine ⟨a, U.cad c, dx, vs, rfl, h1, z.cls, z.na f hc.1, by omega, ?_⟩
  have kp : Kept H2 (upd H2 a (.ins (U.cad c) dx (putF f x vs))) := fun b w y st => by
    rw [upd_ne (fun q => by rw [q, h1] at y; cases y; exact st)]; exact y
  have w := r1.put (by intro _ z; cases z) (o' := .ins c (setF f d fs)) (u := .ins (U.cad c) dx (putF f x vs)) e4 ia ⟨dx, _, upd_same, (setF_put (q2.mono r4.ex r4.tups) h2).mono (Ext.refl _) kp⟩
  exact r5 ι2 _ σ w.2 w.1 (r3.mono (Ext.refl _) w.2.tups)
theorem rev_zip {K : PySem.W.Frag} {ι : List Addr} {H : Hp} : ∀ {fields : List Str} {ds : List D} {vs : List V}, Reps K ι H ds vs → RepF K ι H (fields.zip ds).reverse (fields.zip vs).reverse
  | [], ds, vs, h => rfl
  | f :: fields, [], vs, h => by simp only [Reps] at h; subst h; rfl
  | f :: fields, d :: ds, vs, h => by
    simp only [Reps] at h
    obtain ⟨v, ws, rfl, h1, h2⟩ := h
    simp only [List.zip_cons_cons, List.reverse_cons]
    exact RepF.app (rev_zip h2) ⟨v, [], rfl, h1, rfl⟩
theorem c_rse (g : Gs C U cl X W) (hcm : C.calm = true) {c : Str} {es : Exs} {y : Expr} {ys : List Expr} {p q pos : Pos} (hg : glB X.env.scope c = true) (hm : nmB c = true) (ho : okEs C es X.env.scope (y :: ys) = true) (ha : PA X (y :: ys) (rdA U W (evs cl es))) :
    PS X (.Raise (some (.Call (.Name c p) (y :: ys) [] q)) none pos) (rdS U W (ex cl (.rse c es))) := by
  cases ek : cl.ecl c with
  | none =>
    refine ⟨fun pins sh σ H D I ⟨ι, s, τ, hs, hf, hp⟩ => ?_⟩
    have hp : PostS U W D ι H (match cl.ecl c with
      | some e => (evs cl es τ s).toS τ fun ds s => if ds.length = e.fields.length then .exc τ c (e.fields.zip ds).reverse s else .bad
      | none => .bad) := hp
    rw [ek] at hp
    exact hp.elim
  | some e =>
    obtain ⟨o1, o2⟩ := okEs_cons (pos := q) ho
    have mono : ∀ σ H Q Q', (∀ vs H, Q vs H → Q' vs H) → rdA U W (evs cl es) σ H Q → rdA U W (evs cl es) σ H Q' := fun σ H Q Q' hq ⟨ι, s, τ, hs, hf, hp⟩ => ⟨ι, s, τ, hs, hf, hp.imp hq⟩
    have z := g.ecl hcm c e ek
    refine PS.imp (ps_raise (g.calm hcm) g.tk (z.rse p q y ys _ mono (glB_ok hg) (nmB_ok hm).1 ha o1 o2)) fun D σ H ⟨ι, s, τ, hs, hf, hp⟩ => ?_
    have hp : PostS U W D ι H (match cl.ecl c with
      | some e => (evs cl es τ s).toS τ fun ds s => if ds.length = e.fields.length then .exc τ c (e.fields.zip ds).reverse s else .bad
      | none => .bad) := hp
    rw [ek] at hp
    refine ⟨ι, s, τ, hs, hf, (PostS.toS (rel := RDs U) hf hp).imp fun vs H1 ⟨ι1, s1, ds, q1, q2, q3, _, q4⟩ => ?_⟩
    split at q4
    · rename_i hl
      refine ⟨by rw [q2.length, hl], fun dx nd => ?_⟩
      have sm : Same H1 (upd H1 dx (.xd (e.fields.zip vs).reverse)) := same_new nd
      exact q4 ι1 _ σ (some dx) (Go.same sm) (q1.same sm) (q3.mono (Ext.refl _) (Same.kept sm)) (.inr ⟨dx, _, rfl, upd_same, rev_zip (q2.mono (Ext.refl _) (Same.kept sm))⟩)
    · exact q4.elim

/-! ### try -/
abbrev W1 : WX := fun _ _ _ _ => False
/-- the surroundings of an except suite -/
def Su.in_ (U : Su) (as : Option Nat) (a : Addr) (d : Option Addr) (fs : List (Str × D)) (vs : List (Str × V)) : Su := { U with exi := as, exa := a, exo := d, exD := fs, exV := vs }
abbrev CL.in_ (cl : CL) (as : Option Nat) (c : Str) (fs : List (Str × D)) : CL := { cl with exn := some (as, c, fs) }
theorem suite_gs (g : Gs C U cl X W) (hcm : C.calm = true) {as : Option Nat} {a : Addr} {oe : Obj} {d : Option Addr} {pn : List (Addr × Obj)} {c : Str} {e : Ec} {fs : List (Str × D)} {vs : List (Str × V)} (hz : Zc (.ref (U.cad c)) d oe) (hv : ∃ vs, oe.data = .fields vs) (he : cl.ecl c = some e) :
    Gs { C with calm := false, exi := as } (U.in_ as a d fs vs) (cl.in_ as c fs) (X.suite a ((a, oe) :: pn)) W1 where
  hK := g.hK
  hN := g.hN
  nd := g.nd
  calm := fun z => nomatch z
  exi := rfl
  cexi := fun z => nomatch z
  hu := g.hu
  tk := fun u s' x => by
    obtain ⟨_, _, _, _, _, _, _, _, _, _, _, _, _, _, _, _, z⟩ := x
    exact z
  po := PassesOwn.never
  blt := g.blt
  glb := g.glb
  fns := fun z => nomatch z
  cls := fun _ _ _ z => nomatch z
  fn := g.fn
  kind := g.kind
  stk := g.stk
  frm := g.frm
  ecl := fun z => nomatch z
  xs := fun _ => by
    have z := g.ecl hcm c e he
    have key : ∀ {ι : List Addr} {H : Hp} {τ : Fr} {σ : L2.St} {i : Nat}, RelF (U.in_ as a d fs vs) ι H τ σ → as = some i ∧ i < τ.length → σ[i]? = some (some (.ref a)) ∧ ((d = none ∧ fs = []) ∨ ∃ dd, d = some dd ∧ H dd = some (.xd vs) ∧ RepF U.K ι H fs vs) := fun {ι H τ σ i} hf hi => by
      obtain ⟨h1, h2⟩ := hf.2.2 i hi.1
      have hl : i < σ.length := by rw [← hf.1]; exact hi.2
      exact ⟨by rw [List.getElem?_eq_getElem hl]; rw [h1 _ (List.getElem?_eq_getElem hl)]; rfl, h2⟩
    refine ⟨fun i n f p p2 hn hvi hnm => ⟨fun pins sh σ H Q I ⟨ι, st, τ, hs, hf, hp⟩ => ?_⟩, fun i n cc p p2 p3 p4 hn hvi hnm hg1 hg2 hm2 => ⟨fun pins sh σ H Q I ⟨ι, st, τ, hs, hf, hp⟩ => ?_⟩⟩
    · have hn : X.N[i]? = some n := by rw [g.hN]; exact hn
      have hp : Post (U.in_ as a d fs vs) (RD (U.in_ as a d fs vs)) W1 σ ι H (efD (cl.in_ as c fs) i f τ st) Q := hp
      unfold efD at hp
      simp only [] at hp
      split at hp
      case isFalse => exact hp.elim
      rename_i hi
      rw [he] at hp
      simp only [] at hp
      split at hp
      case isFalse => exact hp.elim
      rename_i hfc
      obtain ⟨k1, k2⟩ := key hf hi
      split at hp
      · rename_i x hx
        refine (pe_xf (e := .Name n p) (te := tVar i) z.xf (z.no f hfc) hz hv (pe_var hn (visB_ok hvi) (nmB_ok hnm).1 (nmB_ok hnm).2.1) rfl).run pins sh σ H Q I ⟨.ref a, k1, rfl, rfl, ?_⟩
        rcases k2 with ⟨_, rfl⟩ | ⟨dd, rfl, h1, h2⟩
        · cases hx
        · obtain ⟨v, h3, h4⟩ := repF_some h2 hx
          exact ⟨dd, vs, v, rfl, h1, h3, hp.p.val hs h4⟩
      · exact hp.elim
    · have hn : X.N[i]? = some n := by rw [g.hN]; exact hn
      have hp : Post (U.in_ as a d fs vs) (RD (U.in_ as a d fs vs)) W1 σ ι H (eiD (cl.in_ as c fs) i cc τ st) Q := hp
      unfold eiD at hp
      simp only [] at hp
      split at hp
      case isFalse => exact hp.elim
      rename_i hi
      rw [he] at hp
      simp only [] at hp
      obtain ⟨k1, k2⟩ := key hf hi.1
      have hn' : PE (X.suite a ((a, oe) :: pn)) (.Name n p2) (tVar i) := pe_var hn (visB_ok hvi) (nmB_ok hnm).1 (nmB_ok hnm).2.1
      have hd : d = none ∨ ∃ dd fs, d = some dd ∧ H dd = some (.xd fs) := k2.imp (fun z => z.1) fun ⟨dd, h1, h2, _⟩ => ⟨dd, vs, h1, h2⟩
      have fin : ∀ (te : TE) (cv : Value) (x : V), PE (X.suite a ((a, oe) :: pn)) (.Name cc p3) te → (∀ σ H Q, Q x H → te σ H Q) → (∀ u, RelV x u → u = cv) → PySem.W.kitOne X.K (.ref (U.cad c)) cv = some (e.sups.contains cc) →
          wpAny (model (X.suite a ((a, oe) :: pn)).prog (X.suite a ((a, oe) :: pn)).w) (X.suite a ((a, oe) :: pn)).A (eval (.Call (.Name "isinstance" p) [.Name n p2, .Name cc p3] [] p4) (X.suite a ((a, oe) :: pn)).env) (EP (X.suite a ((a, oe) :: pn)) pins σ Q) (X.suite a ((a, oe) :: pn)).xe sh := fun te cv x hpe hte hcv hk => by
        refine (pe_callB (X := X.suite a ((a, oe) :: pn)) (call_isX z.ex hz hv) (glB_ok hg1) (g.blt _ (by decide +kernel)) (by decide +kernel) (pa_cons hn' (pa_cons hpe pa_nil rfl) rfl) (by decide +kernel) (by decide +kernel) rfl rfl).run pins sh σ H Q I ?_
        refine ⟨.ref a, k1, hte _ _ _ ?_⟩
        exact ⟨hd, x, cv, _, rfl, hcv, hk, hp.p.val hs (rep_bl _)⟩
      rcases hi.2 with hc | rfl | rfl
      · obtain ⟨e2, he2⟩ := Option.isSome_iff_exists.mp hc
        have z2 := g.ecl hcm cc e2 he2
        exact fin (tC (.ref (U.cad cc))) (.ref (U.cad cc)) (.ref (U.cad cc)) (pe_glob (glB_ok hg2) z2.mg rfl (nmB_ok hm2).1) (fun _ _ _ q => q) (fun u h => h) (z2.kit c e he)
      · exact fin (tC (.ty "ValueError")) (.type "ValueError") (.ty "ValueError") (pe_bltn (glB_ok hg2) (g.blt _ (by decide +kernel)) (by decide +kernel) rfl (by decide +kernel) (by decide +kernel)) (fun _ _ _ q => q) (fun u h => h) z.ve
      · obtain ⟨CE, m1, m2⟩ := z.cb
        exact fin (tC (.ref CE)) (.ref CE) (.ref CE) (pe_glob (glB_ok hg2) m1 rfl (nmB_ok hm2).1) (fun _ _ _ q => q) (fun u h => h) m2
def sIn (as : Option Nat) (a : Addr) (σ : L2.St) : L2.St := match as with
  | some i => σ.set i (some (.ref a))
  | none => σ
def sOut (as : Option Nat) (σ : L2.St) : L2.St := match as with
  | some i => σ.set i none
  | none => σ
theorem relS_in {ι : List Addr} {s : S} {H : Hp} {as : Option Nat} {a : Addr} {d : Option Addr} {fs : List (Str × D)} {vs : List (Str × V)} (h : RelS U ι s H) : RelS (U.in_ as a d fs vs) ι s H := ⟨h.len, fun n o e => let ⟨b, h1, h2⟩ := h.ob n o e; ⟨b, h1, by cases o <;> exact h2⟩, h.inj⟩
theorem relS_out {ι : List Addr} {s : S} {H : Hp} {as : Option Nat} {a : Addr} {d : Option Addr} {fs : List (Str × D)} {vs : List (Str × V)} (h : RelS (U.in_ as a d fs vs) ι s H) : RelS U ι s H := ⟨h.len, fun n o e => let ⟨b, h1, h2⟩ := h.ob n o e; ⟨b, h1, by cases o <;> exact h2⟩, h.inj⟩
theorem relF_out {ι : List Addr} {H : Hp} {as : Option Nat} {a : Addr} {d : Option Addr} {fs : List (Str × D)} {vs : List (Str × V)} {τ : Fr} {σ : L2.St} (hx : U.exi = none) (h : RelF (U.in_ as a d fs vs) ι H τ σ) : RelF U ι H (clr as τ) (sOut as σ) := by
  cases as with
  | none => exact ⟨h.1, h.2.1, fun i hi => by rw [hx] at hi; cases hi⟩
  | some i =>
    refine ⟨by simp [clr, sOut, h.1], fun j x e => ?_, fun i hi => by rw [hx] at hi; cases hi⟩
    simp only [clr] at e
    show ∃ v, (σ.set i none)[j]? = _ ∧ _
    by_cases hj : i = j
    · subst hj
      rw [List.getElem?_set] at e
      simp only [if_true] at e
      split at e <;> cases e
    · rw [List.getElem?_set_ne hj] at e ⊢
      exact h.2.1 j x e
theorem relF_in {ι : List Addr} {H : Hp} {as : Option Nat} {a : Addr} {d : Option Addr} {fs : List (Str × D)} {vs : List (Str × V)} {τ : Fr} {σ : L2.St} (he : (d = none ∧ fs = []) ∨ ∃ dd, d = some dd ∧ H dd = some (.xd vs) ∧ RepF U.K ι H fs vs) (h : RelF U ι H τ σ) :
    RelF (U.in_ as a d fs vs) ι H (clr as τ) (sIn as a σ) := by
  cases as with
  | none => exact ⟨h.1, h.2.1, fun i hi => by cases hi⟩
  | some i =>
    refine ⟨by simp [clr, sIn, h.1], fun j x e => ?_, fun j hj => ⟨fun v hv => ?_, he⟩⟩
    · simp only [clr] at e
      show ∃ v, (σ.set i (some (.ref a)))[j]? = _ ∧ _
      by_cases hj : i = j
      · subst hj
        rw [List.getElem?_set] at e
        simp only [if_true] at e
        split at e <;> cases e
      · rw [List.getElem?_set_ne hj] at e ⊢
        exact h.2.1 j x e
    · cases hj
      have hv : (σ.set i (some (.ref a)))[i]? = some v := hv
      rw [List.getElem?_set] at hv
      simp only [if_true] at hv
      split at hv
      · cases hv; rfl
      · cases hv
/-- the suite's end, seen from without -/
def Ends.off (as : Option Nat) (D : Ends) : Ends := match as with
  | some i => { nx := fun σ' H' => D.nx (σ'.set i none) H', rt := D.rt, bk := fun σ' H' => D.bk (σ'.set i none) H', ct := fun σ' H' => D.ct (σ'.set i none) H' }
  | none => D
theorem postS_off (hx : U.exi = none) {as : Option Nat} {a : Addr} {d : Option Addr} {fs : List (Str × D)} {vs : List (Str × V)} {En : Ends} {ι : List Addr} {H : Hp} {r : SR} (h : PostS U W En ι H (r.off as)) : PostS (U.in_ as a d fs vs) W1 (Ends.off as En) ι H r := by
  cases r with
  | bad => exact h
  | exc τ c fs s => exact h.elim
  | rt dd s =>
    intro ι' H' v go rs rv
    have := h ι' H' v go (relS_out rs) rv
    cases as <;> exact this
  | nx τ s =>
    intro ι' H' σ go rs rf
    have := h ι' H' _ go (relS_out rs) (relF_out hx rf)
    cases as <;> exact this
  | bk τ s =>
    intro ι' H' σ go rs rf
    have := h ι' H' _ go (relS_out rs) (relF_out hx rf)
    cases as <;> exact this
  | ct τ s =>
    intro ι' H' σ go rs rf
    have := h ι' H' _ go (relS_out rs) (relF_out hx rf)
    cases as <;> exact this
theorem c_try (g : Gs C U cl X W) (hcm : C.calm = true) {body suite : Cms} {cx : Str} {as : Option Nat} {nm : Option Str} {bd st : List Stmt} {b0 : Stmt} {p p' pos : Pos} (hg : glB X.env.scope cx = true) (hm : nmB cx = true) (has : okAsn C X.env.scope as nm = true)
    (hb : ∀ (X' : Cx) (W' : WX), Gs C U cl X' W' → X'.env.scope = X.env.scope → PSs X' bd (rdS U W' (exs cl body)))
    (hsu : ∀ (U' : Su) (cl' : CL) (X' : Cx) (W' : WX), Gs { C with calm := false, exi := as } U' cl' X' W' → X'.env.scope = X.env.scope → PSs X' (b0 :: st) (rdS U' W' (exs cl' suite))) :
    PS X (.Try bd [.ExceptHandler (some (.Name cx p)) nm (b0 :: st) p'] [] [] pos) (rdS U W (ex cl (.try_ body (.cons cx as suite .nil)))) := by
  have red : ∀ D σ H, rdS U W (ex cl (.try_ body (.cons cx as suite .nil))) D σ H → (cl.ecl cx).isSome = true ∧ ∃ ι s τ, RelS U ι s H ∧ RelF U ι H τ σ ∧ PostS U W D ι H (match exs cl body τ s with
    | .exc τ' c fs s' => exh cl (.cons cx as suite .nil) c fs τ' s'
    | r => r) := fun D σ H ⟨ι, s, τ, hs, hf, hp⟩ => by
      have hp : PostS U W D ι H (if hsOk cl (.cons cx as suite .nil) = true then (match exs cl body τ s with
        | .exc τ' c fs s' => exh cl (.cons cx as suite .nil) c fs τ' s'
        | r => r) else .bad) := hp
      split at hp
      · rename_i hk
        simp only [hsOk, Bool.and_true] at hk
        exact ⟨hk, ι, s, τ, hs, hf, hp⟩
      · exact hp.elim
  by_cases hk : (cl.ecl cx).isSome = true
  case neg => exact ⟨fun pins sh σ H D I h => absurd (red D σ H h).1 hk⟩
  obtain ⟨e0, ee0⟩ := Option.isSome_iff_exists.mp hk
  have z := g.ecl hcm cx e0 ee0
  have nc : Names X cx (.ref (U.cad cx)) := ⟨glB_ok hg, (nmB_ok hm).1, .inl z.mg⟩
  have hb' : ∀ (W' : WX) (pn : List (Addr × Obj)) (xe : Value → Shared → Prop), Takes (X.tr pn xe) W' → PassesOwn (model X.prog X.w) X.A X.env xe → PSs (X.tr pn xe) bd (rdS U W' (exs cl body)) := fun W' pn xe tk po =>
    hb (X.tr pn xe) W' { hK := g.hK, hN := g.hN, nd := g.nd, calm := g.calm, exi := g.exi, cexi := g.cexi, hu := g.hu, tk := tk, po := po, blt := g.blt, glb := g.glb, fns := g.fns, cls := fun c k h hc => (let z := g.cls c k h hc; ⟨z.mg, z.cls, z.na, z.mth, z.prop, z.init, z.ins, z.one, z.bt⟩), xs := fun q => (by rw [hcm] at q; cases q), fn := g.fn, kind := g.kind, stk := g.stk, frm := g.frm, ecl := fun hc c e h => (let z := g.ecl hc c e h; ⟨z.mg, z.mke, z.exm, z.xf, z.no, z.ex, z.kit, z.ve, z.cb⟩) } rfl
  -- the suite
  let ts : Addr → Value → Option Addr → TS := fun a cls d D σ H => ∃ c e fs vs ι s τ, cls = .ref (U.cad c) ∧ cl.ecl c = some e ∧ RelS (U.in_ as a d fs vs) ι s H ∧ RelF (U.in_ as a d fs vs) ι H τ σ ∧ PostS (U.in_ as a d fs vs) W1 D ι H (exs (cl.in_ as c fs) suite τ s)
  have hs' : ∀ (a : Addr) (oe : Obj) (cls : Value) (d : Option Addr) (pn : List (Addr × Obj)), Zc cls d oe → (∃ vs, oe.data = .fields vs) → PSs (X.suite a ((a, oe) :: pn)) (b0 :: st) (ts a cls d) := fun a oe cls d pn hz hv =>
    ⟨fun pins sh σ H D I ⟨c, e, fs, vs, ι, s, τ, ec, ee, h1, h2, h3⟩ => by
      subst ec
      exact (hsu (U.in_ as a d fs vs) (cl.in_ as c fs) _ W1 (suite_gs g hcm hz hv ee) rfl).run pins sh σ H D I ⟨ι, s, τ, h1, h2, h3⟩⟩
  -- what the body's errors come to
  have go : ∀ {En : Ends} {ι : List Addr} {H : Hp} {τ' : Fr} {c : Str} {fs : List (Str × D)} {s' : S}, PostS U W En ι H (exh cl (.cons cx as suite .nil) c fs τ' s') → ∀ ι' H' σ o, Go ι H ι' H' → RelS U ι' s' H' → RelF U ι' H' τ' σ → ExR U ι' H' fs o →
      ∃ b, PySem.W.exmOne X.K (.ref (U.cad c)) (.ref (U.cad cx)) = some b ∧ (b = true → ∀ a, H' a = none → ts a (.ref (U.cad c)) o (Ends.off as En) (sIn as a σ) H') ∧ (b = false → W (.ref (U.cad c)) o σ H') := fun {En ι H τ' c fs s'} hp ι' H' σ o gg rs rf rx => by
    simp only [exh] at hp
    cases ec : cl.ecl c with
    | none => rw [ec] at hp; exact hp.elim
    | some e =>
      rw [ec] at hp
      simp only [] at hp
      refine ⟨_, z.exm c e ec, fun hb a na => ?_, fun hb => ?_⟩
      · rw [if_pos hb] at hp
        rcases rx with ⟨rfl, rfl⟩ | ⟨dd, vs, rfl, h1, h2⟩
        · exact ⟨c, e, [], [], ι', s', clr as τ', rfl, ec, relS_in rs, relF_in (.inl ⟨rfl, rfl⟩) rf, postS_off (g.noexi hcm) (PostS.mono gg hp)⟩
        · exact ⟨c, e, fs, vs, ι', s', clr as τ', rfl, ec, relS_in rs, relF_in (.inr ⟨dd, rfl, h1, h2⟩) rf, postS_off (g.noexi hcm) (PostS.mono gg hp)⟩
      · rw [if_neg (by rw [hb]; exact Bool.false_ne_true)] at hp
        exact hp ι' H' σ o gg rs rf rx
  have fin : ∀ (W' : WX) (D : Ends) (σ : L2.St) (H : Hp), (∀ c o σ H', (∃ b, PySem.W.exmOne X.K (.ref (U.cad c)) (.ref (U.cad cx)) = some b ∧ (b = true → ∀ a, H' a = none → ts a (.ref (U.cad c)) o (Ends.off as D) (sIn as a σ) H') ∧ (b = false → W (.ref (U.cad c)) o σ H')) → W' (.ref (U.cad c)) o σ H') →
      rdS U W (ex cl (.try_ body (.cons cx as suite .nil))) D σ H → rdS U W' (exs cl body) D σ H := fun W' D σ H hW h => by
    obtain ⟨_, ι, s, τ, hs, hf, hp⟩ := red D σ H h
    refine ⟨ι, s, τ, hs, hf, ?_⟩
    revert hp
    cases exs cl body τ s with
    | exc τ' c fs s' => exact fun hp ι' H' σ o gg rs rf rx => hW c o σ H' (go hp ι' H' σ o gg rs rf rx)
    | bad => exact fun z => z
    | nx τ s => exact fun z => z
    | rt d s => exact fun z => z
    | bk τ s => exact fun z => z
    | ct τ s => exact fun z => z
  cases as with
  | none =>
    cases nm with
    | some n => cases has
    | none => exact PS.imp (ps_try_only g.stk g.frm nc g.tk hb' hs') fun D σ H h => fin _ D σ H (fun c o σ H' q => q) h
  | some i =>
    cases nm with
    | none => cases has
    | some n =>
      simp only [okAsn, Bool.and_eq_true, decide_eq_true_eq] at has
      obtain ⟨h1, h2⟩ := has
      have hl : X.env.kindOf n = some .local := by
        split at h2
        · assumption
        · cases h2
      exact PS.imp (ps_try_as g.stk g.frm g.nd (by rw [g.hN]; exact h1) hl nc g.tk hb' hs') fun D σ H h => fin _ D σ H (fun c o σ H' q => q) h
end
/-- the end of a lock -/
theorem unlock {U : Su} {ι ι' : List Addr} {H H' : Hp} {a : Addr} {od : Obj} {vs : List (Key × V)} {d : Nat} {s2 : S} {ks : List (Key × D)} (ha : H a = some (.dK vs)) (ia : ι[d]? = some a) (go : Go ι (upd H a (.frz od (.dK vs))) ι' H') (hs : RelS U ι' s2 H') (e : s2[d]? = some (.frd ks)) :
    H' a = some (.frz od (.dK vs)) ∧ RelS U ι' (s2.set d (.dct ks)) (upd H' a (.dK vs)) ∧ Go ι H ι' (upd H' a (.dK vs)) ∧ Kept H' (upd H' a (.dK vs)) := by
  have h1 := go.fz a od vs upd_same
  have ia' := go.ex.at ia
  have kp : Kept H' (upd H' a (.dK vs)) := fun b u z st => by
    rw [upd_ne (fun q => by subst q; rw [h1] at z; cases z; exact st)]
    exact z
  have ne : ∀ {b : Addr} {u : HO}, H b = some u → b ≠ a → H' b = none → False := fun hb q z => by
    refine go.there _ ?_ z
    rw [upd_ne q, hb]
    exact fun w => nomatch w
  refine ⟨h1, ⟨by simp [hs.len], fun n o q => ?_, hs.inj⟩, ⟨?_, fun b u z nb => ?_, fun b u z st => ?_, fun b z => ?_, fun b o ws z => ?_⟩, kp⟩
  · by_cases hn : n = d
    · subst hn
      rw [List.getElem?_set_self (List.getElem?_eq_some_iff.mp e).1] at q
      cases q
      obtain ⟨od2, ws, h3, h4⟩ := hs.at e ia'
      rw [h1] at h3
      cases h3
      exact ⟨a, ia', vs, upd_same, h4.mono (Ext.refl _) kp⟩
    · rw [List.getElem?_set_ne (Ne.symm hn)] at q
      obtain ⟨b, h3, h4⟩ := hs.ob n o q
      have hb : b ≠ a := fun z => hn (hs.inj n d a (z ▸ h3) ia')
      exact ⟨b, h3, h4.same (Ext.refl _) kp fun u z => by rw [upd_ne hb]; exact z⟩
  · obtain ⟨l, e1, e2⟩ := go.ext
    refine ⟨l, e1, fun b hb => ?_⟩
    have := e2 b hb
    by_cases q : b = a
    · subst q; rw [upd_same] at this; cases this
    · rw [upd_ne q] at this; exact this
  · have q : b ≠ a := fun q => nb (q ▸ List.mem_of_getElem? ia)
    rw [upd_ne q]
    exact go.keep b u (by rw [upd_ne q]; exact z) nb
  · have q : b ≠ a := fun q => by subst q; rw [ha] at z; cases z; exact st
    rw [upd_ne q]
    exact go.tups b u (by rw [upd_ne q]; exact z) st
  · by_cases q : b = a
    · rw [q, upd_same]; exact fun w => nomatch w
    · rw [upd_ne q]
      exact go.there b (by rw [upd_ne q]; exact z)
  · have q : b ≠ a := fun q => by subst q; rw [ha] at z; cases z
    rw [upd_ne q]
    exact go.fz b o ws (by rw [upd_ne q]; exact z)
theorem c_lk {U : Su} {cl : CL} {X : Cx} {W : WX} {st : Stmt} {e : Ex} {c : Cm} (h : PS X st (rdS U W (ex cl c))) : PS X st (rdS U W (ex cl (.lk e c))) := by
  refine PS.imp (ps_lock h) fun D σ H ⟨ι, s, τ, hs, hf, hp⟩ => ?_
  have hp : PostS U W D ι H (match lkOf (evE cl e τ s) s with
    | some p => lkS p.1 (ex cl c τ (s.set p.1 (.frd p.2)))
    | none => .bad) := hp
  split at hp
  case h_2 => exact hp.elim
  rename_i p q
  obtain ⟨d, kvs⟩ := p
  have e1 : s[d]? = some (.dct kvs) := by
    unfold lkOf at q
    split at q
    · rw [Option.map_eq_some_iff] at q
      obtain ⟨k2, q1, q2⟩ := q
      cases q2
      exact dctAt_of q1
    · cases q
  obtain ⟨a, ia, vs, h1, h2⟩ := hs.ob d _ e1
  refine ⟨a, .dK vs, h1, True.intro, fun od => ?_⟩
  have kp : Kept H (upd H a (.frz od (.dK vs))) := fun b xs z st => by
    rw [upd_ne (fun w => by rw [w, h1] at z; cases z; exact st)]; exact z
  have pt := hs.put (by intro _ z; cases z) (o' := .frd kvs) (u := .frz od (.dK vs)) e1 ia ⟨od, vs, upd_same, h2.mono (Ext.refl _) kp⟩
  refine ⟨ι, s.set d (.frd kvs), τ, pt.1, hf.mono (Ext.refl _) kp, ?_⟩
  have hp : PostS U W D ι H (lkS d (ex cl c τ (s.set d (.frd kvs)))) := hp
  revert hp
  cases ex cl c τ (s.set d (.frd kvs)) with
  | bad => exact fun hp => hp.elim
  | exc τ' c' fs s2 => exact fun hp => hp.elim
  | nx τ' s2 =>
    intro hp ι' H' σ' go hs' hf'
    simp only [lkS, unlk] at hp
    split at hp
    case h_2 => exact hp.elim
    rename_i ks e2
    obtain ⟨u1, u2, u3, u4⟩ := unlock h1 ia go hs' e2
    exact ⟨u1, hp ι' _ σ' u3 u2 (hf'.mono (Ext.refl _) u4)⟩
  | rt v s2 =>
    intro hp ι' H' x go hs' hx
    simp only [lkS, unlk] at hp
    split at hp
    case h_2 => exact hp.elim
    rename_i ks e2
    obtain ⟨u1, u2, u3, u4⟩ := unlock h1 ia go hs' e2
    exact ⟨u1, hp ι' _ x u3 u2 (hx.mono (Ext.refl _) u4)⟩
  | bk τ' s2 =>
    intro hp ι' H' σ' go hs' hf'
    simp only [lkS, unlk] at hp
    split at hp
    case h_2 => exact hp.elim
    rename_i ks e2
    obtain ⟨u1, u2, u3, u4⟩ := unlock h1 ia go hs' e2
    exact ⟨u1, hp ι' _ σ' u3 u2 (hf'.mono (Ext.refl _) u4)⟩
  | ct τ' s2 =>
    intro hp ι' H' σ' go hs' hf'
    simp only [lkS, unlk] at hp
    split at hp
    case h_2 => exact hp.elim
    rename_i ks e2
    obtain ⟨u1, u2, u3, u4⟩ := unlock h1 ia go hs' e2
    exact ⟨u1, hp ι' _ σ' u3 u2 (hf'.mono (Ext.refl _) u4)⟩
mutual
theorem sndC : ∀ (C : Ck) (U : Su) (cl : CL) (c : Cm) (X : Cx) (W : WX) (x : Stmt), Gs C U cl X W → okC C c X.env.scope x = true → PS X x (rdS U W (ex cl c))
  | C, U, cl, .asg t e, X, W, x, g, h => by
    unfold okC at h
    split at h
    case h_2 => cases h
    simp only [Bool.and_eq_true] at h
    obtain ⟨h1, h2⟩ := h
    have i := sndE C U cl e X W _ g.toGd h1
    split at h2
    · simp only [Bool.and_eq_true, decide_eq_true_eq] at h2
      exact c_asg1 g h2.1.1.1 h2.1.1.2 h2.1.2 h2.2 i
    · simp only [Bool.and_eq_true] at h2
      exact c_asgT g h2.1.1.1 h2.1.1.2 h2.1.2 h2.2 ⟨_, _, _, rfl⟩ i
    · simp only [Bool.and_eq_true] at h2
      exact c_sub g h2.1.2 h2.2 (sndE C U cl _ X W _ g.toGd h2.1.1.1) (sndE C U cl _ X W _ g.toGd h2.1.1.2) i
    · simp only [Bool.and_eq_true, decide_eq_true_eq] at h2
      obtain ⟨⟨hc, rfl⟩, h3⟩ := h2
      exact c_fld g hc (sndE C U cl _ X W _ g.toGd h3) i
    · cases h2
  | C, U, cl, .lk e c, X, W, x, g, h => by
    unfold okC at h
    exact c_lk (sndC C U cl c X W x g h)
  | C, U, cl, .ite c a b, X, W, x, g, h => by
    unfold okC at h
    split at h
    case h_2 => cases h
    simp only [Bool.and_eq_true] at h
    exact c_ite (sndE C U cl c X W _ g.toGd h.1.1) (sndCs C U cl a X W _ g h.1.2) (sndCs C U cl b X W _ g h.2)
  | C, U, cl, .for_ t k its body, X, W, x, g, h => by
    unfold okC at h
    split at h
    case h_2 => cases h
    simp only [Bool.and_eq_true] at h
    obtain ⟨⟨⟨⟨hc, h1⟩, h7, ht⟩, h3⟩, h4⟩ := h
    refine c_for g hc h1 h3 ?_ (sndCs C U cl body X W _ g h4)
    unfold okIt at h7
    cases k with
    | seq =>
      simp only [] at h7
      split at h7
      · exact i_seq g.toGd (sndE C U cl _ X W _ g.toGd h7).v
      · cases h7
    | rng1 =>
      simp only [] at h7
      split at h7
      · simp only [Bool.and_eq_true, decide_eq_true_eq] at h7
        obtain ⟨⟨rfl, h8⟩, h9⟩ := h7
        exact i_rng1 g.toGd h8 h9 (sndEs C U cl its X W _ g.toGd h9)
      · cases h7
    | rng2 =>
      simp only [] at h7
      split at h7
      · simp only [Bool.and_eq_true, decide_eq_true_eq] at h7
        obtain ⟨⟨rfl, h8⟩, h9⟩ := h7
        exact i_rng2 g.toGd h8 h9 (sndEs C U cl its X W _ g.toGd h9)
      · cases h7
    | items =>
      simp only [] at h7
      split at h7
      · simp only [Bool.and_eq_true, decide_eq_true_eq] at h7
        obtain ⟨⟨⟨rfl, h8⟩, h9⟩, h10⟩ := h7
        split at h8
        · unfold itTg at ht
          split at ht
          · exact i_items g.toGd h9 h10 (sndE C U cl _ X W _ g.toGd h8).v
          · cases ht
          · rename_i hne _; exact (hne rfl).elim
        · cases h8
      · cases h7
  | C, U, cl, .whl c body, X, W, x, g, h => by
    unfold okC at h
    split at h
    case h_2 => cases h
    simp only [Bool.and_eq_true] at h
    exact c_whl g (sndE C U cl c X W _ g.toGd h.1) (sndCs C U cl body X W _ g h.2)
  | C, U, cl, .ret e, X, W, x, g, h => by
    unfold okC at h
    split at h
    case h_2 => cases h
    refine PS.imp (ps_ret (sndE C U cl e X W _ g.toGd h).v) fun D σ H ⟨ι, s, τ, hs, hf, hp⟩ => ?_
    exact ⟨ι, s, τ, hs, hf, (PostS.toS (rel := RD U) hf hp).imp fun v H1 ⟨ι1, s1, d, q1, q2, q3, _, q4⟩ => q4 ι1 H1 v (Go.refl _ _) q1 q2⟩
  | C, U, cl, .retn, X, W, x, g, h => by
    unfold okC at h
    split at h
    case h_2 => cases h
    exact PS.imp ps_retN fun D σ H ⟨ι, s, τ, hs, hf, hp⟩ => hp ι H .non (Go.refl _ _) hs rep_non
  | C, U, cl, .expr e, X, W, x, g, h => by
    unfold okC at h
    split at h
    case h_2 => cases h
    simp only [Bool.and_eq_true] at h
    refine PS.imp (ps_expr (sndE C U cl e X W _ g.toGd h.1).v (noSwap h.2)) fun D σ H ⟨ι, s, τ, hs, hf, hp⟩ => ?_
    exact ⟨ι, s, τ, hs, hf, (PostS.toS (rel := RD U) hf hp).imp fun v H1 ⟨ι1, s1, d, q1, q2, q3, _, q4⟩ => q4.nx q1 q3⟩
  | C, U, cl, .pass, X, W, x, g, h => by
    unfold okC at h
    split at h
    case h_2 => cases h
    exact PS.imp ps_pass fun D σ H ⟨ι, s, τ, hs, hf, hp⟩ => hp ι H σ (Go.refl _ _) hs hf
  | C, U, cl, .brk, X, W, x, g, h => by
    unfold okC at h
    split at h
    case h_2 => cases h
    exact PS.imp ps_break fun D σ H ⟨ι, s, τ, hs, hf, hp⟩ => hp ι H σ (Go.refl _ _) hs hf
  | C, U, cl, .cont, X, W, x, g, h => by
    unfold okC at h
    split at h
    case h_2 => cases h
    exact PS.imp ps_continue fun D σ H ⟨ι, s, τ, hs, hf, hp⟩ => hp ι H σ (Go.refl _ _) hs hf
  | C, U, cl, .rse c es, X, W, x, g, h => by
    unfold okC at h
    split at h
    case h_2 => cases h
    simp only [Bool.and_eq_true, decide_eq_true_eq] at h
    obtain ⟨⟨⟨⟨hc, rfl⟩, h1⟩, h2⟩, h3⟩ := h
    exact c_rse g hc h1 h2 h3 (sndEs C U cl es X W _ g.toGd h3)
  | C, U, cl, .try_ body hs, X, W, x, g, h => by
    unfold okC at h
    split at h
    case h_2 => cases h
    rename_i bd hds pos
    simp only [Bool.and_eq_true] at h
    obtain ⟨⟨hc, h1⟩, h2⟩ := h
    cases hs with
    | nil => unfold okHs at h2; cases h2
    | cons cx as suite r =>
      cases r with
      | cons _ _ _ _ => unfold okHs at h2; cases h2
      | nil =>
        unfold okHs at h2
        split at h2
        case h_2 => cases h2
        simp only [Bool.and_eq_true, decide_eq_true_eq] at h2
        obtain ⟨⟨⟨⟨rfl, q1⟩, q2⟩, q3⟩, q4⟩ := h2
        exact c_try g hc q1 q2 q3 (fun X' W' g' e => sndCs C U cl body X' W' bd g' (by rw [e]; exact h1)) (fun U' cl' X' W' g' e => sndCs _ U' cl' suite X' W' _ g' (by rw [e]; exact q4))
theorem sndCs : ∀ (C : Ck) (U : Su) (cl : CL) (cs : Cms) (X : Cx) (W : WX) (xs : List Stmt), Gs C U cl X W → okCs C cs X.env.scope xs = true → PSs X xs (rdS U W (exs cl cs))
  | C, U, cl, .nil, X, W, xs, g, h => by
    unfold okCs at h
    cases xs with
    | cons _ _ => cases h
    | nil => exact PSs.imp pss_nil fun D σ H ⟨ι, s, τ, hs, hf, hp⟩ => hp ι H σ (Go.refl _ _) hs hf
  | C, U, cl, .cons c cs, X, W, xs, g, h => by
    unfold okCs at h
    split at h
    case h_2 => cases h
    simp only [Bool.and_eq_true] at h
    refine PSs.imp (pss_cons (sndC C U cl c X W _ g h.1) (sndCs C U cl cs X W _ g h.2)) fun D σ H ⟨ι, s, τ, hs, hf, hp⟩ => ?_
    refine ⟨ι, s, τ, hs, hf, PostS.imp (PostS.bind hp) (fun σ' H' ⟨ι1, s1, τ1, h1, h2, _, h4⟩ => ⟨ι1, s1, τ1, h1, h2, h4⟩) (fun _ _ z => z) (fun _ _ z => z) (fun _ _ z => z)⟩
end

/-! ### defs -/
/-- a def of the text and its plain body -/
structure Df where
  id : Nat
  name : Str
  qual : Str
  N : List Str
  ps : List Str
  st : Stmt
  fn : Fn
/-- the __init__ of an own class of errors -/
structure Xf where
  name : Str
  qual : Str
  N : List Str
  ps : List Str
  st : Stmt
def scB (N ps : List Str) (sc : Scope) : Bool :=
  (match sc.kind with | .function => true | _ => false) && !sc.isCoroutine && !sc.isGenerator && decide N.Nodup && decide (N.take ps.length = ps) && ps.all (locB sc) && sc.names.all fun y => (match y.2 with | .free => false | _ => true)
theorem scB_ok {N ps : List Str} {sc : Scope} (h : scB N ps sc = true) : FnScope N ps sc := by
  unfold scB at h
  simp only [Bool.and_eq_true, Bool.not_eq_true', decide_eq_true_eq, List.all_eq_true] at h
  obtain ⟨⟨⟨⟨⟨⟨h1, h2⟩, h3⟩, h4⟩, h5⟩, h6⟩, h7⟩ := h
  refine ⟨?_, h2, h3, h4, h5, fun x hx => ?_, fun y hy => ?_⟩
  · split at h1
    · assumption
    · cases h1
  · exact locB_ok (h6 x hx)
  · have := h7 y hy
    intro z
    rw [z] at this
    cases this
/-- the names that a program's text uses -/
structure Nm where
  fns : List (Nat × Str)
  gns : List (Nat × Str)
  cls : List Str
  ecl : List Str
/-- the def d is checked -/
def okD (n : Nm) (d : Df) : Bool :=
  scB d.N d.ps (defScope d.st) && decide (d.fn.np = d.ps.length) && decide (d.fn.nl = d.N.length) && okCs ⟨d.N, n.fns, n.gns, n.cls, n.ecl, true, none⟩ d.fn.body (defScope d.st) (defBody d.st)
def okX (base : Str) (fields : List Str) (x : Xf) : Bool :=
  scB x.N x.ps (defScope x.st) && decide (x.ps.length = fields.length + 1) && !fields.isEmpty && decide (fields.length ≤ 800) && okInit x.N (defScope x.st) base fields (defBody x.st)
def DfAt (K : PySem.W.Frag) (d : Df) (f : Addr) : Prop := ∃ fd, Fun K d.name d.qual d.st f fd ∧ Binds K fd d.ps []
structure TopCl (U : Su) (K : PySem.W.Frag) (mg : Str → Option Value) (Γ : Ga) (ds : List Df) (c : Str) (k : Cl) : Prop where
  mg : mg c = some (.ref (U.cad c))
  cls : Cls K (U.cad c)
  na : ∀ f, k.fields.contains f = true → NoAttr K (U.cad c) f
  mth : ∀ m g, k.mths.lookup m = some g → ∃ d ∈ ds, d.id = g ∧ ∃ f, Meth K (U.cad c) m f ∧ DfAt K d f
  prop : ∀ m g, k.props.lookup m = some g → ∃ d ∈ ds, d.id = g ∧ ∃ p f, PropOf K (U.cad c) m p f ∧ DfAt K d f
  init : ∀ g, k.init = some g → ∃ d ∈ ds, d.id = g ∧ ∃ f, Mk K (U.cad c) f ∧ DfAt K d f
  ins : PySem.W.findIn K (.ref (U.cad c)) "__class__" = some (some (.builtin "object.__class__")) ∧ PySem.W.specialIn K (.builtin "object.__class__") "__get__" = some (some (.builtin "getset_descriptor.__get__")) ∧
    PySem.W.takesIn K (.builtin "object.__class__") = some true ∧ PySem.W.mroIn K (U.cad c) (.type "object") = some true
  one : ∀ x k2, Γ.cls.lookup x = some k2 → PySem.W.kitOne K (.ref (U.cad x)) (.ref (U.cad c)) = some (decide (x = c))
  bt : ∀ T ∈ ["NoneType", "bool", "int", "str", "list", "tuple", "dict"], PySem.W.kitOne K (.type T) (.ref (U.cad c)) = some false
structure TopEc (U : Su) (K : PySem.W.Frag) (mg : Str → Option Value) (Γ : Ga) (base : Str) (c : Str) (e : Ec) : Prop where
  cb : ∃ CE, mg "CappedError" = some (.ref CE) ∧ PySem.W.kitOne K (.ref (U.cad c)) (.ref CE) = some (e.sups.contains "CappedError")
  mg : mg c = some (.ref (U.cad c))
  oex : OexC K (U.cad c)
  init : ∃ (x : Xf) (f : Addr) (fd : FuncData), okX base e.fields x = true ∧ Fun K x.name x.qual x.st f fd ∧ Binds K fd x.ps [] ∧ PySem.W.findIn K (.ref (U.cad c)) "__init__" = some (some (.ref f)) ∧ PySem.W.typeIn K (.ref f) = some (.type "function")
  exm : ∀ x e2, Γ.ecl.lookup x = some e2 → PySem.W.exmOne K (.ref (U.cad x)) (.ref (U.cad c)) = some (e2.sups.contains c)
  xf : XfC K (U.cad c)
  no : ∀ f, e.fields.contains f = true → PySem.W.findIn K (.ref (U.cad c)) f = some none
  ex : ExcC K (U.cad c)
  kit : ∀ x e2, Γ.ecl.lookup x = some e2 → PySem.W.kitOne K (.ref (U.cad x)) (.ref (U.cad c)) = some (e2.sups.contains c)
  ve : PySem.W.kitOne K (.ref (U.cad c)) (.type "ValueError") = some (e.sups.contains "ValueError")
/-- the own class of errors that all the others are under -/
structure BaseOk (K : PySem.W.Frag) (mg : Str → Option Value) (base : Str) (CE : Addr) : Prop where
  mg : mg base = some (.ref CE)
  b1 : PySem.W.specialIn K (.ref CE) "__getattribute__" = some (some (.builtin "type.__getattribute__"))
  b2 : PySem.W.readsIn K CE (.type "type") = true
  b3 : PySem.W.findCls K (.ref CE) (.type "type") "__init__" = some (.val (.builtin "ValueError.__init__"))
  b4 : PySem.W.isClsIn K CE = true
  b5 : PySem.W.typeIn K (.ref CE) = some (.type "type")
/-- what the top has made of the defs, classes and constants -/
structure Top (U : Su) (K : PySem.W.Frag) (mg : Str → Option Value) (Γ : Ga) (ds : List Df) (n : Nm) (base : Str) : Prop where
  hK : U.K = K
  exi : U.exi = none
  fns : Γ.fns = ds.map fun d => (d.id, d.fn)
  nd : (ds.map (·.id)).Nodup
  ok : ∀ d ∈ ds, okD n d = true
  blt : ∀ x ∈ blts, mg x = none
  glb : ∀ (i : Nat) (x : Str) (d : D), n.gns.lookup i = some x → Γ.consts.lookup i = some d → ∃ u v, mg x = some u ∧ RelV v u ∧ ∀ ι H, Rep U.K ι H d v
  def_ : ∀ (i : Nat) (x : Str), n.fns.lookup i = some x → ∃ d ∈ ds, d.id = i ∧ ∃ f, DfAt K d f ∧ mg x = some (.ref f) ∧ PySem.W.keepIn K (.ref f) = true
  cls : ∀ c k, Γ.cls.lookup c = some k → TopCl U K mg Γ ds c k
  ecl : ∀ c e, Γ.ecl.lookup c = some e → TopEc U K mg Γ base c e ∧ ∃ CE, BaseOk K mg base CE
theorem look_id : ∀ {ds : List Df} {d : Df}, (ds.map (·.id)).Nodup → d ∈ ds → (ds.map fun d => (d.id, d.fn)).lookup d.id = some d.fn
  | [], d, _, h => by cases h
  | x :: ds, d, hn, h => by
    simp only [List.map_cons, List.nodup_cons] at hn
    simp only [List.map_cons, List.lookup_cons]
    by_cases e : d.id = x.id
    · have e2 : (d.id == x.id) = true := by simpa using e
      rw [e2]
      rcases List.mem_cons.mp h with rfl | h
      · rfl
      · exact absurd (List.mem_map.mpr ⟨d, h, e⟩) hn.1
    · have e2 : (d.id == x.id) = false := by simpa using e
      rw [e2]
      rcases List.mem_cons.mp h with rfl | h
      · exact absurd rfl e
      · exact look_id hn.2 h
theorem room_hu {k : Nat} {A : Around} (r : Room k A) : A.units + 65 < cLine := by have := r.un; omega
theorem start_at {N : List Str} {vs : List V} {j : Nat} {w : V} (h : vs[j]? = some w) : (L2.start N vs)[j]? = some (some w) := by
  unfold L2.start
  rw [List.getElem?_append_left (by have := (List.getElem?_eq_some_iff.mp h).1; simpa using this), List.getElem?_map, h]
  rfl
/-- an own error's __init__ -/
theorem xf_ok {P : Program} {w : World} {K : PySem.W.Frag} {mg : Str → Option Value} {hb : Heap} {base : Str} {CE C : Addr} {fields : List Str} {x : Xf} {f : Addr} {fd : FuncData} (B : BaseOk K mg base CE) (T : OexC K C) (no : ∀ f, fields.contains f = true → PySem.W.findIn K (.ref C) f = some none)
    (h : okX base fields x = true) (F : Fun K x.name x.qual x.st f fd) : FnOk P w K mg hb (L2.CX P w) 1 f fd x.ps (spX K C fields) := by
  unfold okX at h
  simp only [Bool.and_eq_true, decide_eq_true_eq, Bool.not_eq_true'] at h
  obtain ⟨⟨⟨⟨h1, h2⟩, h3⟩, h4⟩, h5⟩ := h
  refine F.okX (scB_ok h1) (fun vs H Q E ⟨a, ws, e, hl, _⟩ => by rw [e, h2]; simp [hl]) (fun cdv A outer s H vs Q E hr ⟨a, ws, e, hl, ha, hq⟩ => ?_)
  subst e
  cases fields with
  | nil => cases h3
  | cons g gs =>
    obtain ⟨t, ht, z⟩ := init_run (X := cxOf (L2.CX P w) P w K mg hb x.N x.qual (defScope x.st) f cdv A outer s H E) (N := x.N) rfl B.mg B.b1 B.b2 B.b3 h5
    refine ⟨t, ht, z _ _ H a C ws (start_at rfl) (fun j w hw => start_at (by rw [show 1 + j = j + 1 by omega]; simpa using hw)) (by simpa using hl) T (fun q hq => no q (by simpa using hq)) ha (by simp at h4; omega) hq⟩
theorem prog_ok {U : Su} {P : Program} {w : World} {K : PySem.W.Frag} {mg : Str → Option Value} {base : Heap} {Γ : Ga} {ds : List Df} {n : Nm} {bs : Str} (T : Top U K mg Γ ds n bs) :
    ∀ (k : Nat) (d : Df), d ∈ ds → ∀ f fd, Fun K d.name d.qual d.st f fd → FnOk P w K mg base (L2.CX P w) (2 * k + 2) f fd d.ps (spOf U (callF Γ k d.id))
  | 0, d, e, f, fd, F => ⟨fun vs H Q E ⟨_, _, _, _, _, z⟩ => z.elim, fun A outer s H args us vs Q E hr _ _ _ ⟨_, _, _, _, _, z⟩ => z.elim⟩
  | k + 1, d, hd, f, fd, F => by
    have ok := T.ok d hd
    unfold okD at ok
    simp only [Bool.and_eq_true, decide_eq_true_eq] at ok
    obtain ⟨⟨⟨h1, h2⟩, h3⟩, h4⟩ := ok
    have hfn : Γ.fns.lookup d.id = some d.fn := by rw [T.fns]; exact look_id T.nd hd
    have hcall : ∀ ds' s, callF Γ (k + 1) d.id ds' s = runFn (clF Γ k) d.fn ds' s := fun ds' s => by
      show (match Γ.fns.lookup d.id with | some fn => runFn _ fn ds' s | none => R.bad) = _
      rw [hfn]; rfl
    refine F.okX (k := 2 * k + 3) (scB_ok h1) (fun vs H Q E h => ?_) (fun cdv A outer s H vs Q E hr h => ?_)
    · obtain ⟨ι, s, ds', _, hr, hp⟩ := h
      rw [hcall] at hp
      unfold runFn at hp
      split at hp
      · rename_i hl
        rw [hr.length, hl, h2]
      · exact hp.elim
    · obtain ⟨ι, st, ds', hs, hr', hp⟩ := h
      rw [hcall] at hp
      unfold runFn at hp
      split at hp
      case isFalse => exact hp.elim
      rename_i hl
      have tk : Takes (cxOf (L2.CX P w) P w K mg base d.N d.qual (defScope d.st) f cdv A outer s H E) (fun cls dd _ H => E cls dd H) := takes_of rfl rfl rfl rfl
      have at_ : ∀ (d2 : Df), d2 ∈ ds → ∀ f2, DfAt K d2 f2 → FnAt (cxOf (L2.CX P w) P w K mg base d.N d.qual (defScope d.st) f cdv A outer s H E) U (clF Γ k) d2.id f2 := fun d2 hd2 f2 ⟨fd2, F2, b2⟩ =>
        ⟨fd2, d2.ps, 2 * k + 2, prog_ok T k d2 hd2 f2 fd2 F2, hr, b2⟩
      have g : Gs ⟨d.N, n.fns, n.gns, n.cls, n.ecl, true, none⟩ U (clF Γ k) (cxOf (L2.CX P w) P w K mg base d.N d.qual (defScope d.st) f cdv A outer s H E) (fun cls dd _ H => E cls dd H) := {
        hK := T.hK
        hN := rfl
        nd := (scB_ok h1).nd
        calm := fun _ => rfl
        exi := T.exi
        cexi := fun _ => rfl
        hu := room_hu hr
        tk := tk
        po := passes_of rfl
        blt := T.blt
        glb := T.glb
        fns := fun _ j x hj => by
          obtain ⟨d2, hd2, rfl, f2, a2, m2, k2⟩ := T.def_ j x hj
          exact ⟨f2, at_ d2 hd2 f2 a2, m2, k2⟩
        cls := fun c kk hc _ => by
          have z := T.cls c kk hc
          refine ⟨z.mg, z.cls, z.na, fun m gg hm => ?_, fun m gg hm => ?_, fun gg hm => ?_, z.ins, z.one, z.bt⟩
          · obtain ⟨d2, hd2, rfl, f2, me, a2⟩ := z.mth m gg hm
            exact ⟨f2, me, at_ d2 hd2 f2 a2⟩
          · obtain ⟨d2, hd2, rfl, p2, f2, me, a2⟩ := z.prop m gg hm
            exact ⟨p2, f2, me, at_ d2 hd2 f2 a2⟩
          · obtain ⟨d2, hd2, rfl, f2, me, a2⟩ := z.init gg hm
            exact ⟨f2, me, at_ d2 hd2 f2 a2⟩
        xs := fun z => nomatch z
        fn := fun _ => rfl
        kind := (scB_ok h1).kind
        stk := rfl
        frm := rfl
        ecl := fun _ c e he => by
          obtain ⟨z, CE, B⟩ := T.ecl c e he
          obtain ⟨x, f2, fd2, hx, F2, b2, i2, t2⟩ := z.init
          refine ⟨z.mg, ⟨?_, f2, fd2, x.ps, 1, z.oex, i2, t2, xf_ok B z.oex z.no hx F2, hr.mono (by omega), b2⟩, z.exm, z.xf, z.no, z.ex, z.kit, z.ve, z.cb⟩
          unfold okX at hx
          simp only [Bool.and_eq_true, decide_eq_true_eq] at hx
          exact hx.1.2 }
      refine ⟨_, sndCs _ U (clF Γ k) d.fn.body _ _ _ g h4, ι, st, ds'.map some ++ List.replicate (d.fn.nl - d.fn.np) none, hs, ?_, ?_⟩
      · have hv := hr'.length
        refine ⟨by unfold L2.start; simp; rw [hv, h3, h2, hl, h2], fun j x hx => ?_, fun j hj => by rw [T.exi] at hj; cases hj⟩
        by_cases hj : j < ds'.length
        · rw [List.getElem?_append_left (by simpa using hj), List.getElem?_map, Option.map_eq_some_iff] at hx
          obtain ⟨x', hx, e'⟩ := hx
          cases e'
          obtain ⟨v, h5, h6⟩ := hr'.get hx
          exact ⟨v, start_at h5, h6⟩
        · rw [List.getElem?_append_right (by simpa using hj), List.getElem?_replicate] at hx
          split at hx <;> cases hx
      · revert hp
        cases exs (clF Γ k) d.fn.body (ds'.map some ++ List.replicate (d.fn.nl - d.fn.np) none) st with
        | nx τ s' => exact fun hp ι' H' σ go hs' _ => hp ι' H' .non go hs' rep_non
        | rt dd s' => exact fun hp => hp
        | exc τ c fs s' => exact fun hp ι' H' σ a go hs' _ he => hp ι' H' a go hs' he
        | bk τ s' => exact fun hp => hp.elim
        | ct τ s' => exact fun hp => hp.elim
        | bad => exact fun hp => hp.elim
end G

set_option Elab.async false
set_option linter.all false
set_option maxRecDepth 100000
set_option autoImplicit false
/-! G9: from the top's facts and a run of the plain law to the row. -/
namespace G
open PySem PySem.Spec PyProof.Rows L2
/-- where the top has put a def -/
def DefAt (K : PySem.W.Frag) (mg : Str → Option Value) (d : Df) : Prop :=
  ∃ f fd, Fun K d.name d.qual d.st f fd ∧ mg d.name = some (.ref f) ∧ PySem.W.keepIn K (.ref f) = true ∧ ∀ us : List Value, us.length = d.ps.length → bindArgs fd ⟨us, []⟩ = pure (d.ps.zip us)
abbrev BindsD (name qual : Str) (ps : List Str) (st : Stmt) : Prop := ∀ (kV doc pm : Value) (an : Option Addr) (cdv ct : Value) (us : List Value), us.length = ps.length → bindArgs (PySem.W.fnOf name qual (defArgs st) (defBody st) (defScope st) .none kV doc pm an cdv ct) ⟨us, []⟩ = pure (ps.zip us)
section
variable {K : PySem.W.Frag} {h : Heap} {mg : Str → Option Value}
theorem defAt (X : K.In h) (G : h.Ns mainGlobals mg) (d : Df) {f : Addr} {oc kV doc pm cd ct : Value} {od an : Option Addr} {sl : Array (Option Value)} (hb : BindsD d.name d.qual d.ps d.st)
    (a : PySem.W.nsIn K mainGlobals d.name = some (some (.ref f))) (l : K.lookup f = some ⟨oc, od, .func (PySem.W.fnOf d.name d.qual (defArgs d.st) (defBody d.st) (defScope d.st) .none kV doc pm an cd ct), sl⟩)
    (c : PySem.W.codeIn K cd d.qual = true) (k : PySem.W.keepIn K (.ref f) = true) : DefAt K mg d :=
  ⟨f, _, fun_mk l c k, PySem.W.mg_of X G a, k, hb kV doc pm an cd ct⟩
theorem DefAt.top {d : Df} (x : DefAt K mg d) : ∃ f, DfAt K d f ∧ mg d.name = some (.ref f) ∧ PySem.W.keepIn K (.ref f) = true := by
  obtain ⟨f, fd, h1, h2, h3, h4⟩ := x
  exact ⟨f, ⟨fd, h1, .all h4⟩, h2, h3⟩
theorem use {P Q : Prop} (x : P) (h : P → Q) : Q := h x
/-- an own class -/
structure ClsAt (K : PySem.W.Frag) (mg : Str → Option Value) (c : Str) (C : Addr) : Prop where
  mg : mg c = some (.ref C)
  cls : Cls K C
  mks : PySem.W.makesIn K C = true
  kp : PySem.W.keepIn K (.ref C) = true
  ty : PySem.W.typeIn K (.ref C) = some (.type "type")
  is : PySem.W.isClsIn K C = true
  ins : PySem.W.findIn K (.ref C) "__class__" = some (some (.builtin "object.__class__")) ∧ PySem.W.specialIn K (.builtin "object.__class__") "__get__" = some (some (.builtin "getset_descriptor.__get__")) ∧
    PySem.W.takesIn K (.builtin "object.__class__") = some true ∧ PySem.W.mroIn K C (.type "object") = some true
theorem clsAt (X : K.In h) (G : h.Ns mainGlobals mg) (c : Str) {C : Addr} (a : PySem.W.nsIn K mainGlobals c = some (some (.ref C))) (c1 : PySem.W.plainGet K C Str.empty = true) (c2 : PySem.W.hasDictIn K C = true) (c3 : PySem.W.plainOver K C = true)
    (c4 : PySem.W.findIn K (.ref C) "__setattr__" = some (some (.builtin "object.__setattr__"))) (c5 : PySem.W.makesIn K C = true) (c6 : PySem.W.keepIn K (.ref C) = true) (c7 : PySem.W.typeIn K (.ref C) = some (.type "type")) (c8 : PySem.W.isClsIn K C = true)
    (c9 : PySem.W.findIn K (.ref C) "__class__" = some (some (.builtin "object.__class__"))) (d1 : PySem.W.specialIn K (.builtin "object.__class__") "__get__" = some (some (.builtin "getset_descriptor.__get__")))
    (d2 : PySem.W.takesIn K (.builtin "object.__class__") = some true) (d3 : PySem.W.mroIn K C (.type "object") = some true) : ClsAt K mg c C :=
  ⟨PySem.W.mg_of X G a, ⟨c1, c2, c3, c4⟩, c5, c6, c7, c8, c9, d1, d2, d3⟩
def MetAt (K : PySem.W.Frag) (C : Addr) (m : Str) (d : Df) : Prop := ∃ f, Meth K C m f ∧ DfAt K d f
theorem metAt {c m : Str} {C f : Addr} (_ : ClsAt K mg c C) (d : Df) {oc kV doc pm cd ct : Value} {od an : Option Addr} {sl : Array (Option Value)} (hb : BindsD d.name d.qual d.ps d.st)
    (a : PySem.W.findIn K (.ref C) m = some (some (.ref f))) (l : K.lookup f = some ⟨oc, od, .func (PySem.W.fnOf d.name d.qual (defArgs d.st) (defBody d.st) (defScope d.st) .none kV doc pm an cd ct), sl⟩)
    (c : PySem.W.codeIn K cd d.qual = true) (k : PySem.W.keepIn K (.ref f) = true) (i : PySem.W.isFn K (.ref f) = true) : MetAt K C m d :=
  ⟨f, ⟨a, i, k⟩, _, fun_mk l c k, .all (hb kV doc pm an cd ct)⟩
def PrpAt (K : PySem.W.Frag) (C : Addr) (m : Str) (d : Df) : Prop := ∃ p f, PropOf K C m p f ∧ DfAt K d f
theorem prpAt {c m : Str} {C p f : Addr} (_ : ClsAt K mg c C) (d : Df) {oc kV doc pm cd ct : Value} {od an : Option Addr} {sl : Array (Option Value)} {rest : List Value} (hb : BindsD d.name d.qual d.ps d.st)
    (a : PySem.W.findIn K (.ref C) m = some (some (.ref p))) (b : PySem.W.specialIn K (.ref p) "__get__" = some (some (.builtin "property.__get__"))) (e : PySem.W.takesIn K (.ref p) = some true) (r : PySem.W.recIn K p "property" = some (.ref f :: rest))
    (l : K.lookup f = some ⟨oc, od, .func (PySem.W.fnOf d.name d.qual (defArgs d.st) (defBody d.st) (defScope d.st) .none kV doc pm an cd ct), sl⟩)
    (c : PySem.W.codeIn K cd d.qual = true) (k : PySem.W.keepIn K (.ref f) = true) : PrpAt K C m d :=
  ⟨p, f, ⟨a, b, e, rest, r⟩, _, fun_mk l c k, .all (hb kV doc pm an cd ct)⟩
theorem noAt {c : Str} {C : Addr} (_ : ClsAt K mg c C) (f : Str) (a : PySem.W.findIn K (.ref C) f = some none) : NoAttr K C f := a
/-- an own class of errors -/
structure ErrAt (K : PySem.W.Frag) (mg : Str → Option Value) (c : Str) (C : Addr) (fields : List Str) (x : Xf) : Prop where
  mg : mg c = some (.ref C)
  oex : OexC K C
  is : PySem.W.isClsIn K C = true
  xf : XfC K C
  ex : ExcC K C
  init : ∃ (f : Addr) (fd : FuncData), Fun K x.name x.qual x.st f fd ∧ Binds K fd x.ps [] ∧ PySem.W.findIn K (.ref C) "__init__" = some (some (.ref f)) ∧ PySem.W.typeIn K (.ref f) = some (.type "function")
  ve : PySem.W.subIn K (.ref C) (.type "ValueError") = some true
theorem errAt (X : K.In h) (G : h.Ns mainGlobals mg) (c : Str) (fields : List Str) (x : Xf) {C f : Addr} {nm q : Str} {N : Addr} {bs bm : List Value} {sn : List Str} {sub : List Value} {ab : Bool} {col : Option Bool} {dd : Option Addr} {m0 m1 m2 m3 m5 : Option Value}
    {oc kV doc pm cd ct : Value} {od an : Option Addr} {sl : Array (Option Value)} (hb : BindsD x.name x.qual x.ps x.st)
    (a : PySem.W.nsIn K mainGlobals c = some (some (.ref C))) (l : K.lookup C = some (excClassObj nm q C N bs bm true sn sub ab col dd m0 m1 m2 m3 m5 "ValueError.__new__")) (r : PySem.HandSPX.refsVE bm = true)
    (c1 : PySem.W.findIn K (.ref C) "__setattr__" = some (some (.builtin "object.__setattr__"))) (c2 : PySem.W.subIn K (.ref C) (.type "BaseException") = some true) (c3 : PySem.W.typeIn K (.ref C) = some (.type "type")) (c4 : PySem.W.keepIn K (.ref C) = true)
    (c5 : PySem.W.isClsIn K C = true) (c6 : PySem.W.findIn K (.ref C) "__getattribute__" = some (some (.builtin "BaseException.__getattribute__"))) (c7 : PySem.W.findIn K (.ref C) "__getattr__" = some none) (c8 : PySem.W.hasDictIn K C = true)
    (c9 : PySem.W.findIn K (.ref C) "__class__" = some (some (.builtin "object.__class__"))) (d1 : PySem.W.specialIn K (.builtin "object.__class__") "__get__" = some (some (.builtin "getset_descriptor.__get__")))
    (d2 : PySem.W.takesIn K (.builtin "object.__class__") = some true) (d3 : PySem.W.mroIn K C (.type "object") = some true) (d4 : PySem.W.findIn K (.ref C) "__init__" = some (some (.ref f))) (d5 : PySem.W.typeIn K (.ref f) = some (.type "function"))
    (d6 : K.lookup f = some ⟨oc, od, .func (PySem.W.fnOf x.name x.qual (defArgs x.st) (defBody x.st) (defScope x.st) .none kV doc pm an cd ct), sl⟩) (d7 : PySem.W.codeIn K cd x.qual = true) (d8 : PySem.W.keepIn K (.ref f) = true)
    (d9 : PySem.W.subIn K (.ref C) (.type "ValueError") = some true) : ErrAt K mg c C fields x :=
  ⟨PySem.W.mg_of X G a, ⟨⟨nm, q, N, bs, bm, sn, sub, ab, col, dd, m0, m1, m2, m3, m5, l, r⟩, c1, c2, c3, c4⟩, c5, ⟨c6, c7, c2, c8⟩, ⟨c6, c7, c2, c8, c9, d1, d2, d3⟩, ⟨f, _, fun_mk d6 d7 d8, .all (hb kV doc pm an cd ct), d4, d5⟩, d9⟩
theorem baseAt (X : K.In h) (G : h.Ns mainGlobals mg) (c : Str) {C : Addr} (a : PySem.W.nsIn K mainGlobals c = some (some (.ref C))) (b1 : PySem.W.specialIn K (.ref C) "__getattribute__" = some (some (.builtin "type.__getattribute__"))) (b2 : PySem.W.readsIn K C (.type "type") = true)
    (b3 : PySem.W.findCls K (.ref C) (.type "type") "__init__" = some (.val (.builtin "ValueError.__init__"))) (b4 : PySem.W.isClsIn K C = true) (b5 : PySem.W.typeIn K (.ref C) = some (.type "type")) : BaseOk K mg c C := ⟨PySem.W.mg_of X G a, b1, b2, b3, b4, b5⟩
/-- of two own classes of errors: is the first under the second -/
def SubAt (K : PySem.W.Frag) (Dc C : Addr) (b : Bool) : Prop := PySem.W.subIn K (.ref Dc) (.ref C) = some b
theorem subAt {c1 c2 : Str} {Dc C : Addr} {f1 f2 : List Str} {x1 x2 : Xf} (_ : ErrAt K mg c1 Dc f1 x1) (_ : ErrAt K mg c2 C f2 x2) (b : Bool) (a : PySem.W.subIn K (.ref Dc) (.ref C) = some b) : SubAt K Dc C b := a
theorem noErr {c : Str} {C : Addr} {fs : List Str} {x : Xf} (_ : ErrAt K mg c C fs x) (f : Str) (a : PySem.W.findIn K (.ref C) f = some none) : PySem.W.findIn K (.ref C) f = some none := a
theorem exm_of {c : Str} {C Dc : Addr} {fs : List Str} {x : Xf} {b : Bool} (z : ErrAt K mg c C fs x) (s : SubAt K Dc C b) : PySem.W.exmOne K (.ref Dc) (.ref C) = some b := PySem.W.exm_ref z.oex.exC z.xf.hdC z.oex.tyC s
theorem kit_of {C Dc : Addr} {b : Bool} (h1 : PySem.W.isClsIn K C = true) (h2 : PySem.W.typeIn K (.ref C) = some (.type "type")) (s : SubAt K Dc C b) (self : SubAt K C C true) : PySem.W.kitOne K (.ref Dc) (.ref C) = some b := by
  unfold PySem.W.kitOne
  split
  · rename_i e
    have e := Value.ref.inj (beq_iff_eq.mp e)
    subst e
    have : some b = some true := s.symm.trans self
    exact this.symm
  · have e2 : ((PySem.W.clsIn K C).isSome && PySem.W.typeIn K (.ref C) == some (.type "type")) = true := by
      have h1' : (PySem.W.clsIn K C).isSome = true := h1
      rw [h1', h2] <;> rfl
    show (if ((PySem.W.clsIn K C).isSome && PySem.W.typeIn K (.ref C) == some (.type "type")) = true then PySem.W.subIn K (.ref Dc) (.ref C) else none) = some b
    rw [if_pos e2]
    exact s
theorem kit_up {C Dc : Addr} (h1 : PySem.W.isClsIn K C = true) (h2 : PySem.W.typeIn K (.ref C) = some (.type "type")) (s : PySem.W.subIn K (.ref Dc) (.ref C) = some true) : PySem.W.kitOne K (.ref Dc) (.ref C) = some true := by
  unfold PySem.W.kitOne
  split
  · rfl
  · have e2 : ((PySem.W.clsIn K C).isSome && PySem.W.typeIn K (.ref C) == some (.type "type")) = true := by
      have h1' : (PySem.W.clsIn K C).isSome = true := h1
      rw [h1', h2] <;> rfl
    show (if ((PySem.W.clsIn K C).isSome && PySem.W.typeIn K (.ref C) == some (.type "type")) = true then PySem.W.subIn K (.ref Dc) (.ref C) else none) = some true
    rw [if_pos e2]
    exact s
theorem upAt {c b : Str} {C CE : Addr} {fs : List Str} {x : Xf} (_ : ErrAt K mg c C fs x) (B : BaseOk K mg b CE) (a : PySem.W.subIn K (.ref C) (.ref CE) = some true) : PySem.W.kitOne K (.ref C) (.ref CE) = some true := kit_up B.b4 B.b5 a
theorem kit_ve {C : Addr} (s : PySem.W.subIn K (.ref C) (.type "ValueError") = some true) : PySem.W.kitOne K (.ref C) (.type "ValueError") = some true := by
  show (if PySem.W.kitMeta "ValueError" = true then PySem.W.subIn K (.ref C) (.type "ValueError") else none) = some true
  rw [if_pos (by decide +kernel)]
  exact s
theorem kit_bt {C : Addr} (h1 : PySem.W.isClsIn K C = true) (h2 : PySem.W.typeIn K (.ref C) = some (.type "type")) : ∀ T ∈ ["NoneType", "bool", "int", "str", "list", "tuple", "dict"], PySem.W.kitOne K (.type T) (.ref C) = some false := by
  have key : ∀ T, PySem.W.subIn K (.type T) (.ref C) = some false → PySem.W.kitOne K (.type T) (.ref C) = some false := fun T hT => by
    have e2 : ((PySem.W.clsIn K C).isSome && PySem.W.typeIn K (.ref C) == some (.type "type")) = true := by
      have h1' : (PySem.W.clsIn K C).isSome = true := h1
      rw [h1', h2] <;> rfl
    show (if ((PySem.W.clsIn K C).isSome && PySem.W.typeIn K (.ref C) == some (.type "type")) = true then PySem.W.subIn K (.type T) (.ref C) else none) = some false
    rw [if_pos e2]
    exact hT
  intro T hT
  simp only [List.mem_cons, List.not_mem_nil, or_false] at hT
  rcases hT with rfl | rfl | rfl | rfl | rfl | rfl | rfl <;> exact key _ rfl
theorem all_look {α : Type} {P : Str → α → Prop} : ∀ {l : List (Str × α)}, (∀ p ∈ l, P p.1 p.2) → ∀ c a, l.lookup c = some a → P c a
  | [], _, c, a, e => by cases e
  | p :: l, h, c, a, e => by
    rw [List.lookup_cons] at e
    split at e
    · rename_i q
      cases e
      have : c = p.1 := by simpa using q
      rw [this]
      exact h p List.mem_cons_self
    · exact all_look (fun q hq => h q (List.mem_cons_of_mem _ hq)) c a e
theorem all_lookN {α : Type} {P : Nat → α → Prop} : ∀ {l : List (Nat × α)}, (∀ p ∈ l, P p.1 p.2) → ∀ c a, l.lookup c = some a → P c a
  | [], _, c, a, e => by cases e
  | p :: l, h, c, a, e => by
    rw [List.lookup_cons] at e
    split at e
    · rename_i q
      cases e
      have : c = p.1 := by simpa using q
      rw [this]
      exact h p List.mem_cons_self
    · exact all_lookN (fun q hq => h q (List.mem_cons_of_mem _ hq)) c a e
end
section
variable {K : PySem.W.Frag} {h : Heap} {mg : Str → Option Value}
theorem no_name (X : K.In h) (G : h.Ns mainGlobals mg) {x : Str} (a : PySem.W.nsIn K mainGlobals x = some none) : mg x = none := PySem.W.mg_none_of X G a
theorem a_name (X : K.In h) (G : h.Ns mainGlobals mg) {x : Str} {v : Value} (a : PySem.W.nsIn K mainGlobals x = some (some v)) : mg x = some v := PySem.W.mg_of X G a
/-- a constant of the module -/
def GlbAt (mg : Str → Option Value) (x : Str) (d : D) : Prop := ∃ u v, mg x = some u ∧ RelV v u ∧ ∀ (K : PySem.W.Frag) ι H, Rep K ι H d v
theorem GlbAt.at {x : Str} {d : D} (g : GlbAt mg x d) (K : PySem.W.Frag) : ∃ u v, mg x = some u ∧ RelV v u ∧ ∀ ι H, Rep K ι H d v := let ⟨u, v, a, b, c⟩ := g; ⟨u, v, a, b, c K⟩
theorem glbInt (X : K.In h) (G : h.Ns mainGlobals mg) {x : Str} {i : Int} {t : Tok} (a : PySem.W.nsIn K mainGlobals x = some (some (.int i t))) : GlbAt mg x (.int i) := ⟨_, .int i, PySem.W.mg_of X G a, ⟨t, rfl⟩, fun _ _ _ => rep_int _⟩
theorem glbStr (X : K.In h) (G : h.Ns mainGlobals mg) {x y : Str} {t : Tok} (a : PySem.W.nsIn K mainGlobals x = some (some (.str y t))) : GlbAt mg x (.str y) := ⟨_, .str y, PySem.W.mg_of X G a, ⟨t, rfl⟩, fun _ _ _ => rep_str _⟩
theorem blts_of (X : K.In h) (G : h.Ns mainGlobals mg) (a0 : PySem.W.nsIn K mainGlobals "isinstance" = some none) (a1 : PySem.W.nsIn K mainGlobals "int" = some none) (a2 : PySem.W.nsIn K mainGlobals "bool" = some none)
    (a3 : PySem.W.nsIn K mainGlobals "str" = some none) (a4 : PySem.W.nsIn K mainGlobals "list" = some none) (a5 : PySem.W.nsIn K mainGlobals "tuple" = some none) (a6 : PySem.W.nsIn K mainGlobals "dict" = some none)
    (a7 : PySem.W.nsIn K mainGlobals "len" = some none) (a8 : PySem.W.nsIn K mainGlobals "abs" = some none) (a9 : PySem.W.nsIn K mainGlobals "range" = some none)
    (b0 : PySem.W.nsIn K mainGlobals "sorted" = some none) (b1 : PySem.W.nsIn K mainGlobals "min" = some none) (b2 : PySem.W.nsIn K mainGlobals "max" = some none) (b3 : PySem.W.nsIn K mainGlobals "ValueError" = some none) (b4 : PySem.W.nsIn K mainGlobals "reversed" = some none) : ∀ x ∈ blts, mg x = none := by
  intro x hx
  simp only [blts, List.mem_cons, List.not_mem_nil, or_false] at hx
  rcases hx with rfl | rfl | rfl | rfl | rfl | rfl | rfl | rfl | rfl | rfl | rfl | rfl | rfl | rfl | rfl
  all_goals exact no_name X G (by assumption)
end
theorem walk {l : PySem.W.OpenLaw} {q : Program} {loose : List Str} {XP : (Str → Option Value) → Heap → Prop} {YP : World → Heap → Prop} {d : DefRec} {K : Params → PySem.W.Frag} {Γ : Ga} {ds : List Df} {n : Nm} {bs : Str} {k : Nat} {dl : Df} {x : Str}
    (hi : dl ∈ ds) (hx : dl.ps = [x]) (hd : d.name = dl.name) (hr : Room (2 * k + 2) callerA) (hn : l.most = some 63) (hdf : d.params.defaults = [])
    (hY : ∀ (w : World) (h : Heap), YP w h → (K w.params).In h)
    (F : ∀ (w : World) (mg : Str → Option Value) (h : Heap), (K w.params).In h → h.Ns mainGlobals mg → (∃ U : Su, Top U (K w.params) mg Γ ds n bs) ∧ DefAt (K w.params) mg dl)
    (law : ∀ ns : List Int, ns.length ≤ 63 → ∃ s, callF Γ k dl.id [.flst (ns.map .int)] [] = .ok (.bl true) s) :
    PySem.W.WalkO q loose XP YP l.row.toRowW d [] (fun f vs => PySem.call f vs) := by
  refine L2.walk_of (n := 63) (k := 2 * k + 2) (x := x) (K := K) (CX := fun w => L2.CX l.prog w) (sp := fun w vs H Q E => vs.length = 1 ∧ ∀ U : Su, U.K = K w.params → spOf U (callF Γ k dl.id) vs H Q E) hn (by decide) hdf hr hY (fun w mg fa h KX G hmg => ?_) (fun w H a ns hl hO hS => ?_) fun w H s e s' z => ?_
  · obtain ⟨⟨U, T⟩, f, fd, h1, h2, _, h3⟩ := F w mg h KX G
    have ef : f = fa := by rw [hd, h2] at hmg; cases hmg; rfl
    rw [ef] at h1
    refine ⟨fd, fun s u => .of_eq (by rw [h3 [u] (by rw [hx]; rfl), hx]; rfl), fun base _ _ => ?_⟩
    have := prog_ok (P := l.prog) (w := w) (base := base) T k dl hi fa fd h1
    rw [hx] at this
    exact this.imp fun vs H Q E z => z.2 U T.hK
  · refine ⟨rfl, fun U hK => ⟨[], [], [.flst (ns.map .int)], ⟨rfl, fun n o e => by simp at e, fun n m a e => by simp at e⟩, ?_, ?_⟩⟩
    · refine Reps.cons ?_ Reps.nil
      simp only [Rep]
      refine ⟨a, ns.map V.int, rfl, ?_, Reps.ints⟩
      rw [hK]
      rcases hS with (h | ⟨o, h⟩) | h
      · rcases hO a with z | ⟨o, xs, z⟩
        · rw [z] at h; cases h
        · rw [z] at h; cases h
      · exact .inl ⟨o, h⟩
      · exact .inr h
    · obtain ⟨s, e⟩ := law ns hl
      rw [e]
      exact fun ι' H' v _ _ r => r.bl_of
  · obtain ⟨_, _, _, _, _, _, _, _, _, _, _, _, q⟩ := z
    exact q
end G

set_option Elab.async false
set_option linter.all false
set_option maxRecDepth 100000
set_option autoImplicit false
set_option maxHeartbeats 1000000
/-! Lw1: the laws' own drawing of numbers, in plain runs. -/
namespace G
open PySem
local macro_rules | `(tactic| walk_at "ev") => `(tactic| simp only [runFn, exs, ex, evE, evT, ev, evs, plainT, asB, store, asgV, srcOf, List.length_cons, List.length_nil, List.map_cons, List.map_nil, List.cons_append, List.nil_append, List.replicate_succ, List.replicate_zero, Nat.reduceSub, Nat.reduceAdd, List.getElem?_cons_zero, List.getElem?_cons_succ, List.set_cons_zero, List.set_cons_succ, Cst.d, R.bind_ok, R.bind_bad, R.bind_exc, SR.bind_nx, SR.bind_rt, SR.bind_bad, SR.bind_exc, R.toS_ok, R.toS_bad, R.toS_exc, if_true, Bool.not_true, Bool.not_false, Bool.false_eq_true, if_false])
/-! ### statement by statement -/
section
variable {cl : CL} {c : Cm} {cs : Cms} {τ τ' : Fr} {s s' : S} {d : D} {fn : Fn} {ds : List D}
theorem exs_nx (h : ex cl c τ s = .nx τ' s') : exs cl (.cons c cs) τ s = exs cl cs τ' s' := by simp only [exs, h, SR.bind_nx]
theorem exs_rt (h : ex cl c τ s = .rt d s') : exs cl (.cons c cs) τ s = .rt d s' := by simp only [exs, h, SR.bind_rt]
theorem run_rt (hl : ds.length = fn.np) (h : exs cl fn.body (ds.map some ++ List.replicate (fn.nl - fn.np) none) s = .rt d s') : runFn cl fn ds s = .ok d s' := by unfold runFn; rw [if_pos hl, h]
theorem run_nx (hl : ds.length = fn.np) (h : exs cl fn.body (ds.map some ++ List.replicate (fn.nl - fn.np) none) s = .nx τ' s') : runFn cl fn ds s = .ok .non s' := by unfold runFn; rw [if_pos hl, h]
theorem ex_asg {e : Ex} {i : Nat} (h : evE cl e τ s = .ok d s') : ex cl (.asg (.loc (.var i)) e) τ s = .nx (τ.set i (some d)) s' := by simp only [ex, h, R.toS_ok, store, asgV]
theorem ex_ret {e : Ex} (h : evE cl e τ s = .ok d s') : ex cl (.ret e) τ s = .rt d s' := by simp only [ex, h, R.toS_ok]
theorem ex_expr {e : Ex} (h : evE cl e τ s = .ok d s') : ex cl (.expr e) τ s = .nx τ s' := by simp only [ex, h, R.toS_ok]
theorem ex_ite {e : Ex} {a b : Cms} {k : Bool} (h : evT cl e τ s = .ok k s') : ex cl (.ite e a b) τ s = if k = true then exs cl a τ s' else exs cl b τ s' := by simp only [ex, h, R.toS_ok]
theorem ite_t {e : Ex} {a b : Cms} (h : evT cl e τ s = .ok true s') : ex cl (.ite e a b) τ s = exs cl a τ s' := (ex_ite h).trans (if_pos rfl)
theorem ite_f {e : Ex} {a b : Cms} (h : evT cl e τ s = .ok false s') : ex cl (.ite e a b) τ s = exs cl b τ s' := (ex_ite h).trans (if_neg Bool.false_ne_true)
/-- a test that fails, and goes by -/
theorem exs_skip {e : Ex} {a : Cms} (h : evT cl e τ s = .ok false s') : exs cl (.cons (.ite e a .nil) cs) τ s = exs cl cs τ s' := exs_nx ((ite_f h).trans rfl)
/-- a test that holds, and hands back -/
theorem exs_in {e : Ex} {a b : Cms} {s2 : S} (h : evT cl e τ s = .ok true s') (h2 : exs cl a τ s' = .rt d s2) : exs cl (.cons (.ite e a b) cs) τ s = .rt d s2 := exs_rt ((ite_t h).trans h2)
theorem exs_ret {e : Ex} (h : evE cl e τ s = .ok d s') : exs cl (.cons (.ret e) cs) τ s = .rt d s' := exs_rt (ex_ret h)
theorem exs_asg {e : Ex} {i : Nat} (h : evE cl e τ s = .ok d s') : exs cl (.cons (.asg (.loc (.var i)) e) cs) τ s = exs cl cs (τ.set i (some d)) s' := exs_nx (ex_asg h)
theorem exs_expr {e : Ex} (h : evE cl e τ s = .ok d s') : exs cl (.cons (.expr e) cs) τ s = exs cl cs τ s' := exs_nx (ex_expr h)
end
/-- a def's call, a level down -/
theorem call_of {Γ : Ga} {k f : Nat} {fn : Fn} (h : Γ.fns.lookup f = some fn) (ds : List D) (s : S) : (clF Γ (k + 1)).call f ds s = runFn (clF Γ k) fn ds s := by
  show (match Γ.fns.lookup f with | some fn => runFn _ fn ds s | none => R.bad) = _
  rw [h]; rfl
theorem call_rt {Γ : Ga} {k f : Nat} {fn : Fn} {ds : List D} {s s' : S} {d : D} {τ : Fr} (h : Γ.fns.lookup f = some fn) (hl : ds.length = fn.np) (hτ : ds.map some ++ List.replicate (fn.nl - fn.np) none = τ) (hb : exs (clF Γ k) fn.body τ s = .rt d s') : (clF Γ (k + 1)).call f ds s = .ok d s' :=
  (call_of h ds s).trans (run_rt hl (by rw [hτ]; exact hb))
theorem lv {k m : Nat} (h : m + 1 ≤ k) : ∃ j, k = j + 1 ∧ m ≤ j := ⟨k - 1, by omega, by omega⟩
/-! ### lists that stand in the store -/
section
variable {s : S} {n : Nat} {ds : List D} {d v : D} {i : Int} {o o' : O}
theorem dctOf_lst (h : s[n]? = some (.lst ds)) : dctOf s (.ref n) = none := by
  show dctAt s n = none
  unfold dctAt; rw [h]
theorem lstAt_of (h : s[n]? = some (.lst ds)) : lstAt s n = some ds := by unfold lstAt; rw [h]
theorem atI_of {α : Type} {xs : List α} {x : α} (h0 : 0 ≤ i) (h : xs[i.toNat]? = some x) : L2.atI xs i = some x := by
  have hl := (List.getElem?_eq_some_iff.mp h).1
  unfold L2.atI L2.ixN
  rw [if_pos h0, if_pos (by omega)]
  exact h
theorem ixD_ref (h : s[n]? = some (.lst ds)) (h0 : 0 ≤ i) (hd : ds[i.toNat]? = some d) : ixD (.ref n) (.int i) s = .ok d s := by
  have e : dctAt s n = none := by unfold dctAt; rw [h]
  simp only [ixD, e, ixS, seqOf, lstAt_of h, Option.bind_some, atI_of h0 hd]
theorem ixD_tup (h0 : 0 ≤ i) (hd : ds[i.toNat]? = some d) : ixD (.tup ds) (.int i) s = .ok d s := by
  simp only [ixD, ixS, seqOf, Option.bind_some, atI_of h0 hd]
theorem setD_ref (h : s[n]? = some (.lst ds)) (h0 : 0 ≤ i) (hi : i.toNat < ds.length) : setD (.ref n) (.int i) v s = some (s.set n (.lst (ds.set i.toNat v))) := by
  simp only [setD, h]
  unfold L2.ixN
  rw [if_pos h0, if_pos (by omega)]
theorem set_get (h : n < s.length) : (s.set n o)[n]? = some o := List.getElem?_set_self h
theorem set_same (h : s[n]? = some o) : s.set n o = s := by
  apply List.ext_getElem?
  intro j
  by_cases hj : j = n
  · subst hj; rw [List.getElem?_set_self (List.getElem?_eq_some_iff.mp h).1, h]
  · rw [List.getElem?_set_ne (Ne.symm hj)]
theorem lt_of_get (h : s[n]? = some o) : n < s.length := (List.getElem?_eq_some_iff.mp h).1
theorem mulD {i j : Int} (h : (-(2 ^ 64) < i ∧ i < 2 ^ 64) ∨ (-(2 ^ 64) < j ∧ j < 2 ^ 64)) : binD .mul (.int i) (.int j) s = .ok (.int (i * j)) s := by simp only [binD, if_pos h]
theorem modD {i j : Int} (h : 0 < j) : binD .mod (.int i) (.int j) s = .ok (.int (i % j)) s := by simp only [binD, if_pos h]
theorem fdivD {i j : Int} (h : 0 < j ∧ j.natAbs.log2 < 9000) : binD .fdiv (.int i) (.int j) s = .ok (.int (i / j)) s := by simp only [binD, if_pos h]
theorem addI {i j : Int} : binD .add (.int i) (.int j) s = .ok (.int (i + j)) s := rfl
theorem subI {i j : Int} : binD .sub (.int i) (.int j) s = .ok (.int (i - j)) s := rfl
theorem eqI {i j : Int} : cmpD .eq (.int i) (.int j) s = .ok (i == j) s := by
  simp only [cmpD, eqD, eqP, toP]
  rw [if_pos ⟨rfl, rfl⟩]
  rfl
theorem eqI_t {i j : Int} (h : i = j) : cmpD .eq (.int i) (.int j) s = .ok true s := by rw [eqI, h]; simp
theorem eqI_f {i j : Int} (h : i ≠ j) : cmpD .eq (.int i) (.int j) s = .ok false s := by rw [eqI]; simp [h]
theorem powI {a b : Int} {s : S} {c : Int} (h : 0 ≤ b ∧ b ≤ 1000000 ∧ a.natAbs < 2 ^ 64) (e : a ^ b.toNat = c) : binD .pow (.int a) (.int b) s = .ok (.int c) s := by simp only [binD, if_pos h, e]
theorem lenS {x : Str} {s : S} (h : x.length ≤ 10000) : bltD .len [.str x] s = .ok (.int x.length) s := by
  simp only [bltD]
  rw [if_pos (by rw [sizeLine_eq]; omega)]
theorem slS {x : Str} {lo hi : Option Int} {s : S} (h : x.length ≤ 10000) : slD (.str x) lo hi s = .ok (.str (L2.cutS x lo hi)) s := by
  simp only [slD]
  rw [if_pos (by rw [sizeLine_eq]; omega)]
theorem addS {x y : Str} {s : S} (h : x.length + y.length ≤ 10000) : binD .add (.str x) (.str y) s = .ok (.str (x ++ y)) s := by
  simp only [binD, addD]
  rw [if_pos (by rw [sizeLine_eq]; omega)]
theorem log2_lt {m b : Nat} (h : m < 2 ^ b) (hb : 0 < b) : m.log2 < b := by
  by_cases h0 : m = 0
  · subst h0; simpa using hb
  · exact (Nat.log2_lt h0).mpr h
end

/-! ### the pool -/
/-- a pool: the rest of a great cell, the next cell's place, the seed, the count, the cells -/
def pool (a b c e : Int) (cs : List Int) : O := .lst (.int a :: .int b :: .int c :: .int e :: cs.map .int)
structure PoolIn (o : O) : Prop where
  ex : ∃ a b c e cs, o = pool a b c e cs ∧ 0 ≤ a ∧ 4 ≤ b ∧ 0 ≤ c ∧ c < 2147483647 ∧ 0 ≤ e
section
variable {s : S} {n : Nat} {a b c e v : Int} {cs : List Int}
theorem pool_at (h : n < s.length) : (s.set n (pool a b c e cs))[n]? = some (.lst (.int a :: .int b :: .int c :: .int e :: cs.map .int)) := set_get h
theorem pool_0 (h : n < s.length) : ixD (.ref n) (.int 0) (s.set n (pool a b c e cs)) = .ok (.int a) (s.set n (pool a b c e cs)) := ixD_ref (pool_at h) (by decide) rfl
theorem pool_1 (h : n < s.length) : ixD (.ref n) (.int 1) (s.set n (pool a b c e cs)) = .ok (.int b) (s.set n (pool a b c e cs)) := ixD_ref (pool_at h) (by decide) rfl
theorem pool_2 (h : n < s.length) : ixD (.ref n) (.int 2) (s.set n (pool a b c e cs)) = .ok (.int c) (s.set n (pool a b c e cs)) := ixD_ref (pool_at h) (by decide) rfl
theorem pool_3 (h : n < s.length) : ixD (.ref n) (.int 3) (s.set n (pool a b c e cs)) = .ok (.int e) (s.set n (pool a b c e cs)) := ixD_ref (pool_at h) (by decide) rfl
theorem pool_cell (h : n < s.length) (h4 : 4 ≤ b) (hb : b < (cs.length : Int) + 4) : ∃ x, ixD (.ref n) (.int b) (s.set n (pool a b c e cs)) = .ok (.int x) (s.set n (pool a b c e cs)) := by
  obtain ⟨k, rfl⟩ : ∃ k : Nat, b = k + 4 := ⟨(b - 4).toNat, by omega⟩
  have hk : k < cs.length := by omega
  refine ⟨cs[k], ixD_ref (pool_at h) (by omega) ?_⟩
  have e1 : ((k : Int) + 4).toNat = k + 1 + 1 + 1 + 1 := by omega
  rw [e1]
  simp only [List.getElem?_cons_succ, List.getElem?_map, List.getElem?_eq_getElem hk, Option.map_some]
theorem pool_len (h : n < s.length) : bltD .len [.ref n] (s.set n (pool a b c e cs)) = .ok (.int ((cs.length : Int) + 4)) (s.set n (pool a b c e cs)) := by
  have e : dctOf (s.set n (pool a b c e cs)) (.ref n) = none := dctOf_lst (pool_at h)
  simp only [bltD, e, seqOf, lstAt_of (pool_at h), List.length_cons, List.length_map]
  congr 2
theorem pool_s0 (h : n < s.length) : setD (.ref n) (.int 0) (.int v) (s.set n (pool a b c e cs)) = some (s.set n (pool v b c e cs)) := by
  rw [setD_ref (pool_at h) (by decide) (by simp), List.set_set]; rfl
theorem pool_s1 (h : n < s.length) : setD (.ref n) (.int 1) (.int v) (s.set n (pool a b c e cs)) = some (s.set n (pool a v c e cs)) := by
  rw [setD_ref (pool_at h) (by decide) (by simp), List.set_set]; rfl
theorem pool_s2 (h : n < s.length) : setD (.ref n) (.int 2) (.int v) (s.set n (pool a b c e cs)) = some (s.set n (pool a b v e cs)) := by
  rw [setD_ref (pool_at h) (by decide) (by simp), List.set_set]; rfl
theorem pool_s3 (h : n < s.length) : setD (.ref n) (.int 3) (.int v) (s.set n (pool a b c e cs)) = some (s.set n (pool a b c v cs)) := by
  rw [setD_ref (pool_at h) (by decide) (by simp), List.set_set]; rfl
end
def bMixed : Cms := .cons (.asg (.loc (.var 2)) (.bin .mod (.blt .int (.cons (.bin .mul (.bin .add (.bin .add (.var 0) (.bin .mul (.cst (.int 7919)) (.var 1))) (.cst (.int 1))) (.cst (.int 48271))) .nil)) (.cst (.int 2147483647))))
    (.cons (.asg (.loc (.var 2)) (.bin .mod (.blt .int (.cons (.bin .mul (.var 2) (.bin .add (.bin .fdiv (.var 2) (.cst (.int 1009))) (.cst (.int 69621)))) .nil)) (.cst (.int 2147483647))))
    (.cons (.ret (.bin .mod (.blt .int (.cons (.bin .mul (.var 2) (.bin .add (.bin .fdiv (.var 2) (.cst (.int 2003))) (.cst (.int 40692)))) .nil)) (.cst (.int 2147483399)))) .nil))
theorem run_mixed (cl : CL) (s : S) (x y : Int) : ∃ r, runFn cl ⟨2, 3, bMixed⟩ [.int x, .int y] s = .ok (.int r) s ∧ 0 ≤ r := by
  have l1 : (1009 : Int).natAbs.log2 < 9000 := by decide +kernel
  have l2 : (2003 : Int).natAbs.log2 < 9000 := by decide +kernel
  obtain ⟨n1, e1⟩ : ∃ n1, n1 = (x + 7919 * y + 1) * 48271 % 2147483647 := ⟨_, rfl⟩
  obtain ⟨n2, e2⟩ : ∃ n2, n2 = n1 * (n1 / 1009 + 69621) % 2147483647 := ⟨_, rfl⟩
  have b1 : 0 ≤ n1 ∧ n1 < 2147483647 := by rw [e1]; exact ⟨Int.emod_nonneg _ (by decide), Int.emod_lt_of_pos _ (by decide)⟩
  have b2 : 0 ≤ n2 ∧ n2 < 2147483647 := by rw [e2]; exact ⟨Int.emod_nonneg _ (by decide), Int.emod_lt_of_pos _ (by decide)⟩
  refine ⟨n2 * (n2 / 2003 + 40692) % 2147483399, ?_, Int.emod_nonneg _ (by decide)⟩
  refine run_rt rfl ?_
  refine (exs_nx (ex_asg (d := .int n1) (s' := s) ?_)).trans ?_
  · walk_at "ev"
    rw [mulD (.inl (by decide))]; walk_at "ev"
    rw [addI]; walk_at "ev"
    rw [addI]; walk_at "ev"
    rw [mulD (.inr (by decide))]; walk_at "ev"
    simp only [bltD]; walk_at "ev"
    rw [modD (by decide), ← e1]
  refine (exs_nx (ex_asg (d := .int n2) (s' := s) ?_)).trans ?_
  · walk_at "ev"
    rw [fdivD ⟨by decide, l1⟩]; walk_at "ev"
    rw [addI]; walk_at "ev"
    rw [mulD (.inl (by omega))]; walk_at "ev"
    simp only [bltD]; walk_at "ev"
    rw [modD (by decide), ← e2]
  refine exs_rt (ex_ret ?_)
  walk_at "ev"
  rw [fdivD ⟨by decide, l2⟩]; walk_at "ev"
  rw [addI]; walk_at "ev"
  rw [mulD (.inl (by omega))]; walk_at "ev"
  simp only [bltD]; walk_at "ev"
  rw [modD (by decide)]
def bDraw (mix : Nat) : Cms := .cons (.asg (.sub (.var 0) (.cst (.int 3))) (.bin .add (.ix (.var 0) (.cst (.int 3))) (.cst (.int 1))))
    (.cons (.ite (.and (.cmp .eq (.ix (.var 0) (.cst (.int 0))) (.cst (.int 0))) (.cmp .lt (.ix (.var 0) (.cst (.int 1))) (.blt .len (.cons (.var 0) .nil)))) (.cons (.asg (.loc (.var 2)) (.blt .abs (.cons (.ix (.var 0) (.ix (.var 0) (.cst (.int 1)))) .nil)))
    (.cons (.asg (.sub (.var 0) (.cst (.int 1))) (.bin .add (.ix (.var 0) (.cst (.int 1))) (.cst (.int 1))))
    (.cons (.ite (.cmp .lt (.var 2) (.bin .pow (.cst (.int 10)) (.cst (.int 18)))) (.cons (.asg (.sub (.var 0) (.cst (.int 2))) (.bin .mod (.blt .int (.cons (.bin .add (.bin .add (.bin .mul (.ix (.var 0) (.cst (.int 2))) (.cst (.int 7919))) (.var 2)) (.cst (.int 1))) .nil)) (.cst (.int 2147483647)))) .nil) (.cons (.asg (.sub (.var 0) (.cst (.int 0))) (.var 2)) .nil)) .nil))) (.nil))
    (.cons (.ite (.cmp .gt (.ix (.var 0) (.cst (.int 0))) (.cst (.int 0))) (.cons (.asg (.loc (.var 3)) (.bin .mod (.blt .int (.cons (.ix (.var 0) (.cst (.int 0))) .nil)) (.var 1)))
    (.cons (.asg (.sub (.var 0) (.cst (.int 0))) (.bin .fdiv (.ix (.var 0) (.cst (.int 0))) (.var 1)))
    (.cons (.ret (.var 3)) .nil))) (.nil))
    (.cons (.ret (.bin .mod (.blt .int (.cons (.call mix (.cons (.ix (.var 0) (.cst (.int 2))) (.cons (.ix (.var 0) (.cst (.int 3))) .nil))) .nil)) (.var 1))) .nil)))

theorem run_draw {cl : CL} {mix : Nat} (hm : ∀ x y s, ∃ r, cl.call mix [.int x, .int y] s = .ok (.int r) s ∧ 0 ≤ r) {s : S} {n : Nat} {m : Int} (hn : n < s.length) {a b c e : Int} {cs : List Int} (ha : 0 ≤ a) (hb : 4 ≤ b) (hc : 0 ≤ c) (hc2 : c < 2147483647) (he : 0 ≤ e) (m0 : 0 < m) (mb : m.natAbs.log2 < 9000) :
    ∃ r o, runFn cl ⟨2, 4, bDraw mix⟩ [.ref n, .int m] (s.set n (pool a b c e cs)) = .ok (.int r) (s.set n o) ∧ 0 ≤ r ∧ r < m ∧ PoolIn o := by
  have f1 : ex cl (.asg (.sub (.var 0) (.cst (.int 3))) (.bin .add (.ix (.var 0) (.cst (.int 3))) (.cst (.int 1)))) [some (.ref n), some (.int m), none, none] (s.set n (pool a b c e cs)) = .nx [some (.ref n), some (.int m), none, none] (s.set n (pool a b c (e + 1) cs)) := by
    walk_at "ev"
    rw [pool_3 hn]; walk_at "ev"
    rw [addI]; walk_at "ev"
    rw [pool_s3 hn]
  have f2 : ∃ a' b' c' x, ex cl (.ite (.and (.cmp .eq (.ix (.var 0) (.cst (.int 0))) (.cst (.int 0))) (.cmp .lt (.ix (.var 0) (.cst (.int 1))) (.blt .len (.cons (.var 0) .nil)))) (.cons (.asg (.loc (.var 2)) (.blt .abs (.cons (.ix (.var 0) (.ix (.var 0) (.cst (.int 1)))) .nil)))
    (.cons (.asg (.sub (.var 0) (.cst (.int 1))) (.bin .add (.ix (.var 0) (.cst (.int 1))) (.cst (.int 1))))
    (.cons (.ite (.cmp .lt (.var 2) (.bin .pow (.cst (.int 10)) (.cst (.int 18)))) (.cons (.asg (.sub (.var 0) (.cst (.int 2))) (.bin .mod (.blt .int (.cons (.bin .add (.bin .add (.bin .mul (.ix (.var 0) (.cst (.int 2))) (.cst (.int 7919))) (.var 2)) (.cst (.int 1))) .nil)) (.cst (.int 2147483647)))) .nil) (.cons (.asg (.sub (.var 0) (.cst (.int 0))) (.var 2)) .nil)) .nil))) (.nil)) [some (.ref n), some (.int m), none, none] (s.set n (pool a b c (e + 1) cs)) = .nx [some (.ref n), some (.int m), x, none] (s.set n (pool a' b' c' (e + 1) cs)) ∧ 0 ≤ a' ∧ 4 ≤ b' ∧ 0 ≤ c' ∧ c' < 2147483647 := by
    by_cases h1 : a = 0 ∧ b < (cs.length : Int) + 4
    · obtain ⟨x, hx⟩ := pool_cell (s := s) (a := a) (c := c) (e := e + 1) hn hb h1.2
      obtain ⟨y, hy⟩ : ∃ y, y = if x < 0 then -x else x := ⟨_, rfl⟩
      have y0 : 0 ≤ y := by rw [hy]; split <;> omega
      have pre : ∀ R, exs cl (.cons (.ite (.cmp .lt (.var 2) (.bin .pow (.cst (.int 10)) (.cst (.int 18)))) (.cons (.asg (.sub (.var 0) (.cst (.int 2))) (.bin .mod (.blt .int (.cons (.bin .add (.bin .add (.bin .mul (.ix (.var 0) (.cst (.int 2))) (.cst (.int 7919))) (.var 2)) (.cst (.int 1))) .nil)) (.cst (.int 2147483647)))) .nil) (.cons (.asg (.sub (.var 0) (.cst (.int 0))) (.var 2)) .nil)) .nil) [some (.ref n), some (.int m), some (.int y), none] (s.set n (pool a (b + 1) c (e + 1) cs)) = R →
          ex cl (.ite (.and (.cmp .eq (.ix (.var 0) (.cst (.int 0))) (.cst (.int 0))) (.cmp .lt (.ix (.var 0) (.cst (.int 1))) (.blt .len (.cons (.var 0) .nil)))) (.cons (.asg (.loc (.var 2)) (.blt .abs (.cons (.ix (.var 0) (.ix (.var 0) (.cst (.int 1)))) .nil)))
    (.cons (.asg (.sub (.var 0) (.cst (.int 1))) (.bin .add (.ix (.var 0) (.cst (.int 1))) (.cst (.int 1))))
    (.cons (.ite (.cmp .lt (.var 2) (.bin .pow (.cst (.int 10)) (.cst (.int 18)))) (.cons (.asg (.sub (.var 0) (.cst (.int 2))) (.bin .mod (.blt .int (.cons (.bin .add (.bin .add (.bin .mul (.ix (.var 0) (.cst (.int 2))) (.cst (.int 7919))) (.var 2)) (.cst (.int 1))) .nil)) (.cst (.int 2147483647)))) .nil) (.cons (.asg (.sub (.var 0) (.cst (.int 0))) (.var 2)) .nil)) .nil))) (.nil)) [some (.ref n), some (.int m), none, none] (s.set n (pool a b c (e + 1) cs)) = R := by
        intro R hR
        rw [ex_ite (k := true) (s' := s.set n (pool a b c (e + 1) cs)), if_pos rfl]
        · refine (exs_nx (ex_asg (d := .int y) (s' := s.set n (pool a b c (e + 1) cs)) ?_)).trans ?_
          · walk_at "ev"
            rw [pool_1 hn]; walk_at "ev"
            rw [hx]; walk_at "ev"
            rw [hy]; rfl
          · refine (exs_nx (τ' := [some (.ref n), some (.int m), some (.int y), none]) (s' := s.set n (pool a (b + 1) c (e + 1) cs)) ?_).trans hR
            walk_at "ev"
            rw [pool_1 hn]; walk_at "ev"
            rw [addI]; walk_at "ev"
            rw [pool_s1 hn]
        · walk_at "ev"
          rw [pool_0 hn]; walk_at "ev"
          rw [eqI, h1.1]; walk_at "ev"
          rw [show ((0 : Int) == 0) = true from rfl]; walk_at "ev"
          rw [← h1.1, pool_1 hn]; walk_at "ev"
          rw [pool_len hn]; walk_at "ev"
          simp only [cmpD, ltD, decide_eq_true h1.2]
      have p18 : binD .pow (.int 10) (.int 18) (s.set n (pool a (b + 1) c (e + 1) cs)) = .ok (.int 1000000000000000000) (s.set n (pool a (b + 1) c (e + 1) cs)) := by
        simp only [binD]
        rw [if_pos (by decide)]
        rfl
      by_cases h2 : y < 1000000000000000000
      · refine ⟨a, b + 1, (c * 7919 + y + 1) % 2147483647, some (.int y), pre _ ?_, ha, by omega, Int.emod_nonneg _ (by decide), Int.emod_lt_of_pos _ (by decide)⟩
        refine exs_nx ?_
        rw [ex_ite (k := true) (s' := s.set n (pool a (b + 1) c (e + 1) cs)), if_pos rfl]
        · refine exs_nx ?_
          walk_at "ev"
          rw [pool_2 hn]; walk_at "ev"
          rw [mulD (.inl (by omega))]; walk_at "ev"
          rw [addI]; walk_at "ev"
          rw [addI]; walk_at "ev"
          simp only [bltD]; walk_at "ev"
          rw [modD (by decide)]; walk_at "ev"
          rw [pool_s2 hn]
        · walk_at "ev"
          rw [p18]; walk_at "ev"
          simp only [cmpD, ltD, decide_eq_true h2]
      · refine ⟨y, b + 1, c, some (.int y), pre _ ?_, y0, by omega, hc, hc2⟩
        refine exs_nx ?_
        rw [ex_ite (k := false) (s' := s.set n (pool a (b + 1) c (e + 1) cs)), if_neg Bool.false_ne_true]
        · refine exs_nx ?_
          walk_at "ev"
          rw [pool_s0 hn]
        · walk_at "ev"
          rw [p18]; walk_at "ev"
          simp only [cmpD, ltD, decide_eq_false h2]
    · refine ⟨a, b, c, none, ?_, ha, hb, hc, hc2⟩
      rw [ex_ite (k := false) (s' := s.set n (pool a b c (e + 1) cs)), if_neg Bool.false_ne_true]
      · rfl
      · walk_at "ev"
        rw [pool_0 hn]; walk_at "ev"
        rw [eqI]; walk_at "ev"
        by_cases h2 : a = 0
        · rw [h2, show ((0 : Int) == 0) = true from rfl]; walk_at "ev"
          rw [← h2, pool_1 hn]; walk_at "ev"
          rw [pool_len hn]; walk_at "ev"
          have h3 : ¬ b < (cs.length : Int) + 4 := fun z => h1 ⟨h2, z⟩
          simp only [cmpD, ltD, decide_eq_false h3]
        · rw [show (a == 0) = false from by simpa using h2]; walk_at "ev"
  obtain ⟨a', b', c', x, f2, ha', hb', hc', hc2'⟩ := f2
  have go : ∀ r o, exs cl (.cons (.ite (.cmp .gt (.ix (.var 0) (.cst (.int 0))) (.cst (.int 0))) (.cons (.asg (.loc (.var 3)) (.bin .mod (.blt .int (.cons (.ix (.var 0) (.cst (.int 0))) .nil)) (.var 1)))
    (.cons (.asg (.sub (.var 0) (.cst (.int 0))) (.bin .fdiv (.ix (.var 0) (.cst (.int 0))) (.var 1)))
    (.cons (.ret (.var 3)) .nil))) (.nil))
    (.cons (.ret (.bin .mod (.blt .int (.cons (.call mix (.cons (.ix (.var 0) (.cst (.int 2))) (.cons (.ix (.var 0) (.cst (.int 3))) .nil))) .nil)) (.var 1))) .nil)) [some (.ref n), some (.int m), x, none] (s.set n (pool a' b' c' (e + 1) cs)) = .rt (.int r) (s.set n o) →
      runFn cl ⟨2, 4, bDraw mix⟩ [.ref n, .int m] (s.set n (pool a b c e cs)) = .ok (.int r) (s.set n o) := fun r o h => run_rt rfl ((exs_nx f1).trans ((exs_nx f2).trans h))
  by_cases h3 : 0 < a'
  · refine ⟨a' % m, pool (a' / m) b' c' (e + 1) cs, go _ _ ?_, Int.emod_nonneg _ (by omega), Int.emod_lt_of_pos _ m0, ⟨_, _, _, _, _, rfl, Int.ediv_nonneg ha' (by omega), hb', hc', hc2', by omega⟩⟩
    refine exs_rt ?_
    rw [ex_ite (k := true) (s' := s.set n (pool a' b' c' (e + 1) cs)), if_pos rfl]
    · refine (exs_nx (ex_asg (d := .int (a' % m)) (s' := s.set n (pool a' b' c' (e + 1) cs)) ?_)).trans ?_
      · walk_at "ev"
        rw [pool_0 hn]; walk_at "ev"
        simp only [bltD]; walk_at "ev"
        rw [modD m0]
      · refine (exs_nx (τ' := [some (.ref n), some (.int m), x, some (.int (a' % m))]) (s' := s.set n (pool (a' / m) b' c' (e + 1) cs)) ?_).trans ?_
        · walk_at "ev"
          rw [pool_0 hn]; walk_at "ev"
          rw [fdivD ⟨m0, mb⟩]; walk_at "ev"
          rw [pool_s0 hn]
        · refine exs_rt (ex_ret ?_)
          walk_at "ev"
    · walk_at "ev"
      rw [pool_0 hn]; walk_at "ev"
      simp only [cmpD, decide_eq_true h3]
  · obtain ⟨r, hr, r0⟩ := hm c' (e + 1) (s.set n (pool a' b' c' (e + 1) cs))
    refine ⟨r % m, pool a' b' c' (e + 1) cs, go _ _ ?_, Int.emod_nonneg _ (by omega), Int.emod_lt_of_pos _ m0, ⟨_, _, _, _, _, rfl, ha', hb', hc', hc2', by omega⟩⟩
    refine (exs_nx (τ' := [some (.ref n), some (.int m), x, none]) (s' := s.set n (pool a' b' c' (e + 1) cs)) ?_).trans ?_
    · rw [ex_ite (k := false) (s' := s.set n (pool a' b' c' (e + 1) cs)), if_neg Bool.false_ne_true]
      · rfl
      · walk_at "ev"
        rw [pool_0 hn]; walk_at "ev"
        simp only [cmpD, decide_eq_false h3]
    · refine exs_rt (ex_ret ?_)
      walk_at "ev"
      rw [pool_2 hn]; walk_at "ev"
      rw [pool_3 hn]; walk_at "ev"
      rw [hr]; walk_at "ev"
      simp only [bltD]; walk_at "ev"
      rw [modD m0]
end G

set_option Elab.async false
set_option linter.all false
set_option maxRecDepth 100000
set_option autoImplicit false
set_option maxHeartbeats 1000000
/-! Lw2: loops in plain runs; words and names that are drawn. -/
namespace G
open PySem
local macro_rules | `(tactic| walk_at "ev") => `(tactic| simp only [runFn, exs, ex, evE, evT, ev, evs, plainT, asB, store, asgV, srcOf, List.length_cons, List.length_nil, List.map_cons, List.map_nil, List.cons_append, List.nil_append, List.replicate_succ, List.replicate_zero, Nat.reduceSub, Nat.reduceAdd, List.getElem?_cons_zero, List.getElem?_cons_succ, List.set_cons_zero, List.set_cons_succ, Cst.d, R.bind_ok, R.bind_bad, R.bind_exc, SR.bind_nx, SR.bind_rt, SR.bind_bad, SR.bind_exc, R.toS_ok, R.toS_bad, R.toS_exc, if_true, Bool.not_true, Bool.not_false, Bool.false_eq_true, if_false])
/-! ### loops -/
section
variable {ok : S → Prop} {g : D → Fr → S → SR} {items ds : List D} {d : D} {τ τ' : Fr} {s s' : S}
theorem forS_nil (h : ok s) : forS ok g [] τ s = .nx τ s := by unfold forS; rw [if_pos h]
theorem forS_nx (h : ok s) (e : g d τ s = .nx τ' s') : forS ok g (d :: ds) τ s = forS ok g ds τ' s' := by
  conv => lhs; unfold forS
  rw [if_pos h, e]
theorem forS_ct (h : ok s) (e : g d τ s = .ct τ' s') : forS ok g (d :: ds) τ s = forS ok g ds τ' s' := by
  conv => lhs; unfold forS
  rw [if_pos h, e]
theorem forS_rt {x : D} (h : ok s) (e : g d τ s = .rt x s') : forS ok g (d :: ds) τ s = .rt x s' := by
  conv => lhs; unfold forS
  rw [if_pos h, e]
/-- a loop that is run to its end, by what holds ahead of each turn -/
theorem forS_inv (I : Nat → Fr → S → Prop) (hok : ∀ i τ s, I i τ s → ok s) (step : ∀ i d τ s, items[i]? = some d → I i τ s → ∃ τ' s', g d τ s = .nx τ' s' ∧ I (i + 1) τ' s') (h0 : I 0 τ s) :
    ∃ τ' s', forS ok g items τ s = .nx τ' s' ∧ I items.length τ' s' := by
  have key : ∀ (ds : List D) (i : Nat) (τ : Fr) (s : S), items.drop i = ds → i ≤ items.length → I i τ s → ∃ τ' s', forS ok g ds τ s = .nx τ' s' ∧ I items.length τ' s' := by
    intro ds
    induction ds with
    | nil =>
      intro i τ s e hi h
      have : items.length ≤ i := by simpa using e
      have : i = items.length := by omega
      subst this
      exact ⟨τ, s, forS_nil (hok _ _ _ h), h⟩
    | cons d ds ih =>
      intro i τ s e hi h
      have e1 : items[i]? = some d := by
        have := List.getElem?_drop (xs := items) (i := i) (j := 0)
        rw [e] at this
        simpa using this.symm
      have hil := (List.getElem?_eq_some_iff.mp e1).1
      obtain ⟨τ', s', h1, h2⟩ := step i d τ s e1 h
      obtain ⟨τ2, s2, h3, h4⟩ := ih (i + 1) τ' s' (by
        have : items.drop (i + 1) = (items.drop i).drop 1 := by rw [List.drop_drop]
        rw [this, e]; rfl) hil h2
      exact ⟨τ2, s2, (forS_nx (hok _ _ _ h) h1).trans h3, h4⟩
  exact key items 0 τ s rfl (Nat.zero_le _) h0
/-- a comprehension, by what holds ahead of each turn -/
theorem lcS_inv {g : D → S → R (Option D)} (I : Nat → List D → S → Prop) (hok : ∀ i r s, I i r s → ok s) (step : ∀ i d r s, items[i]? = some d → I i r s → ∃ od s', g d s = .ok od s' ∧ I (i + 1) (r ++ od.toList) s') (h0 : I 0 [] s) :
    ∃ r s', lcS ok g items s = .ok r s' ∧ I items.length r s' := by
  have key : ∀ (ds : List D) (i : Nat) (r : List D) (s : S), items.drop i = ds → i ≤ items.length → I i r s → ∃ r' s', lcS ok g ds s = .ok r' s' ∧ I items.length (r ++ r') s' := by
    intro ds
    induction ds with
    | nil =>
      intro i r s e hi h
      have : items.length ≤ i := by simpa using e
      have : i = items.length := by omega
      subst this
      exact ⟨[], s, by unfold lcS; rw [if_pos (hok _ _ _ h)], by simpa using h⟩
    | cons d ds ih =>
      intro i r s e hi h
      have e1 : items[i]? = some d := by
        have := List.getElem?_drop (xs := items) (i := i) (j := 0)
        rw [e] at this
        simpa using this.symm
      have hil := (List.getElem?_eq_some_iff.mp e1).1
      obtain ⟨od, s', h1, h2⟩ := step i d r s e1 h
      obtain ⟨r2, s2, h3, h4⟩ := ih (i + 1) _ s' (by
        have : items.drop (i + 1) = (items.drop i).drop 1 := by rw [List.drop_drop]
        rw [this, e]; rfl) hil h2
      refine ⟨od.toList ++ r2, s2, ?_, by rw [← List.append_assoc]; exact h4⟩
      unfold lcS
      rw [if_pos (hok _ _ _ h), h1, R.bind_ok, h3, R.bind_ok]
      cases od <;> rfl
  simpa using key items 0 [] s rfl (Nat.zero_le _) h0
end
/-- a turn of a for, of a comprehension -/
noncomputable def forB (cl : CL) (t : Tv) (body : Cms) : D → Fr → S → SR := fun d τ s => match asgV t d s τ with
  | none => .bad
  | some τ' => exs cl body τ' s
noncomputable def lcB (cl : CL) (τ : Fr) (vs : List Nat) (t : Tv) (cond elt : Ex) : D → S → R (Option D) := fun d s => match asgV t d s (wipeF τ vs) with
  | none => .bad
  | some τ' => ((if cond.isNop = true then .ok true s else ((ev cl cond).2 τ' s).calm : R Bool)).bind fun c s => if c = true then (((ev cl elt).1 τ' s).calm).bind fun y s => .ok (some y) s else .ok none s
section
variable {cl : CL} {t : Tv} {k : Ik} {its : Exs} {body : Cms} {τ : Fr} {s s1 s2 : S} {ds r : List D} {src : Src} {elt cond : Ex} {own : List (Str × Nat)}
theorem ex_for (h1 : evs cl its τ s = .ok ds s1) (h2 : srcOf k ds s1 = some src) : ex cl (.for_ t k its body) τ s = forS src.ok (forB cl t body) src.items τ s1 := by
  simp only [ex, h1, R.toS_ok, h2]
  rfl
theorem forB_var {i : Nat} {d : D} : forB cl (.var i) body d τ s = exs cl body (τ.set i (some d)) s := rfl
theorem ev_lc (h1 : evs cl its τ s = .ok ds s1) (h2 : srcOf k ds s1 = some src) (hl : src.items.length < sizeLine) (h3 : lcS src.ok (lcB cl τ (own.map (·.2)) t cond elt) src.items s1 = .ok r s2) :
    evE cl (.lc elt t k its cond own) τ s = .ok (.ref s2.length) (s2 ++ [.lst r]) := by
  show (evs cl its τ s).bind _ = _
  rw [h1, R.bind_ok]
  simp only [h2]
  rw [if_pos hl]
  show (lcS src.ok (lcB cl τ (own.map (·.2)) t cond elt) src.items s1).bind _ = _
  rw [h3]; rfl
theorem lcB_var {i : Nat} {d y : D} {vs : List Nat} (h : evE cl elt ((wipeF τ vs).set i (some d)) s = .ok y s1) : lcB cl τ vs (.var i) .nop elt d s = .ok (some y) s1 := by
  have h : (ev cl elt).1 ((wipeF τ vs).set i (some d)) s = .ok y s1 := h
  simp only [lcB, asgV, Ex.isNop, if_true, R.bind_ok, h, R.calm_ok]
theorem lcB_if {i : Nat} {d y : D} {vs : List Nat} (hn : cond.isNop = false) (hc : evT cl cond ((wipeF τ vs).set i (some d)) s = .ok true s1) (h : evE cl elt ((wipeF τ vs).set i (some d)) s1 = .ok y s2) : lcB cl τ vs (.var i) cond elt d s = .ok (some y) s2 := by
  have h : (ev cl elt).1 ((wipeF τ vs).set i (some d)) s1 = .ok y s2 := h
  have hc : (ev cl cond).2 ((wipeF τ vs).set i (some d)) s = .ok true s1 := hc
  simp only [lcB, asgV, hn, Bool.false_eq_true, if_false, hc, R.calm_ok, R.bind_ok, if_true, h]
theorem lcB_no {i : Nat} {d : D} {vs : List Nat} (hn : cond.isNop = false) (hc : evT cl cond ((wipeF τ vs).set i (some d)) s = .ok false s1) : lcB cl τ vs (.var i) cond elt d s = .ok none s1 := by
  have hc : (ev cl cond).2 ((wipeF τ vs).set i (some d)) s = .ok false s1 := hc
  simp only [lcB, asgV, hn, Bool.false_eq_true, if_false, hc, R.calm_ok, R.bind_ok]
end
/-! ### the store around a pool -/
def PoolAt (n : Nat) (s : S) : Prop := ∃ o, s[n]? = some o ∧ PoolIn o
/-- all but the pool at n stands as it stood -/
structure Gr (n : Nat) (s s' : S) : Prop where
  len : s.length ≤ s'.length
  keep : ∀ i, i < s.length → i ≠ n → s'[i]? = s[i]?
  pool : PoolAt n s'
theorem Gr.trans {n : Nat} {s1 s2 s3 : S} (a : Gr n s1 s2) (b : Gr n s2 s3) : Gr n s1 s3 :=
  ⟨Nat.le_trans a.len b.len, fun i hi hn => (b.keep i (Nat.lt_of_lt_of_le hi a.len) hn).trans (a.keep i hi hn), b.pool⟩
theorem Gr.refl {n : Nat} {s : S} (h : PoolAt n s) : Gr n s s := ⟨Nat.le_refl _, fun _ _ _ => rfl, h⟩
theorem Gr.at {n i : Nat} {s s' : S} {o : O} (g : Gr n s s') (h : s[i]? = some o) (hn : i ≠ n) : s'[i]? = some o := (g.keep i (lt_of_get h) hn).trans h
theorem PoolAt.lt {n : Nat} {s : S} (h : PoolAt n s) : n < s.length := let ⟨_, e, _⟩ := h; lt_of_get e
/-- a new object behind -/
theorem Gr.new {n : Nat} {s : S} (h : PoolAt n s) (o : O) : Gr n s (s ++ [o]) := by
  refine ⟨by simp, fun i hi _ => List.getElem?_append_left hi, ?_⟩
  obtain ⟨p, e, q⟩ := h
  exact ⟨p, by rw [List.getElem?_append_left (lt_of_get e)]; exact e, q⟩
theorem new_at {s : S} {o : O} : (s ++ [o])[s.length]? = some o := by simp
/-- drawing, as a callee -/
def Dr (cl : CL) (draw : Nat) : Prop := ∀ (s : S) (n : Nat) (m : Int), PoolAt n s → 0 < m → m.natAbs.log2 < 9000 → ∃ r s', cl.call draw [.ref n, .int m] s = .ok (.int r) s' ∧ 0 ≤ r ∧ r < m ∧ Gr n s s' ∧ s'.length = s.length
theorem small_log {m : Int} (h0 : 0 < m) (h : m < 2 ^ 64) : m.natAbs.log2 < 9000 := Nat.lt_of_lt_of_le (log2_lt (b := 64) (by omega) (by decide)) (by decide)
theorem dr_of {cl cl' : CL} {mix draw : Nat} (hm : ∀ x y s, ∃ r, cl.call mix [.int x, .int y] s = .ok (.int r) s ∧ 0 ≤ r) (h : ∀ ds s, cl'.call draw ds s = runFn cl ⟨2, 4, bDraw mix⟩ ds s) : Dr cl' draw := by
  intro s n m ⟨o, e, ⟨a, b, c, e', cs, ho, ha, hb, hc, hc2, he⟩⟩ m0 mb
  have hn := lt_of_get e
  obtain ⟨r, o', h1, h2, h3, h4⟩ := run_draw hm (cs := cs) hn ha hb hc hc2 he m0 mb
  rw [← ho, set_same e] at h1
  refine ⟨r, s.set n o', by rw [h, h1], h2, h3, ⟨by simp, fun i hi hne => List.getElem?_set_ne (Ne.symm hne), ⟨o', set_get hn, h4⟩⟩, by simp⟩
/-! ### words -/
def letters : Str := "abcdefghijklmnopqrstuvwxyz"
theorem letters_eq : letters.cps.toList = (List.range 26).map (97 + ·) := by decide +kernel
def Low (x : Str) : Prop := ∀ c ∈ x.cps.toList, 97 ≤ c ∧ c ≤ 122
theorem mem_letters {c : Nat} : c ∈ letters.cps.toList ↔ 97 ≤ c ∧ c ≤ 122 := by
  rw [letters_eq, List.mem_map]
  constructor
  · rintro ⟨k, hk, rfl⟩
    have := List.mem_range.mp hk
    omega
  · rintro ⟨h1, h2⟩
    exact ⟨c - 97, List.mem_range.mpr (by omega), by omega⟩
theorem letter_ix {r : Int} (h0 : 0 ≤ r) (h : r < 26) {s : S} : ∃ c, ixD (.str letters) (.int r) s = .ok (.str ⟨#[c]⟩) s ∧ 97 ≤ c ∧ c ≤ 122 := by
  refine ⟨97 + r.toNat, ?_, by omega, by omega⟩
  have hl : letters.length ≤ sizeLine := by decide +kernel
  have ha : L2.atI letters.cps.toList r = some (97 + r.toNat) := by
    refine atI_of h0 ?_
    rw [letters_eq, List.getElem?_map, List.getElem?_range (by omega)]
    rfl
  simp only [ixD, if_pos hl, ha]
theorem low_app {x y : Str} (hx : Low x) (hy : Low y) : Low (x ++ y) := by
  intro c hc
  have : c ∈ (x.cps ++ y.cps).toList := hc
  rw [Array.toList_append] at this
  rcases List.mem_append.mp this with h | h
  · exact hx c h
  · exact hy c h
theorem len_app (x y : Str) : (x ++ y).length = x.length + y.length := by
  show (x.cps ++ y.cps).size = x.cps.size + y.cps.size
  exact Array.size_append
theorem low_one {c : Nat} (h : 97 ≤ c ∧ c ≤ 122) : Low ⟨#[c]⟩ := by
  intro d hd
  have : d = c := by simpa using hd
  rw [this]; exact h
def bWord (draw : Nat) : Cms := .cons (.asg (.loc (.var 2)) (.cst (.str "abcdefghijklmnopqrstuvwxyz")))
    (.cons (.asg (.loc (.var 3)) (.cst (.str "")))
    (.cons (.for_ (.var 4) .rng1 (.cons (.var 1) .nil) (.cons (.asg (.loc (.var 3)) (.bin .add (.var 3) (.ix (.var 2) (.call draw (.cons (.var 0) (.cons (.cst (.int 26)) .nil)))))) .nil))
    (.cons (.ret (.var 3)) .nil)))
theorem src_rng {m : Int} (h0 : 0 ≤ m) (h : m < 2 ^ 62) (s : S) : srcOf .rng1 [.int m] s = some (.vals (rngD 0 m.toNat)) := by
  simp only [srcOf]
  rw [if_pos (by omega)]
theorem rng_at {lo : Int} {n i : Nat} {d : D} (h : (rngD lo n)[i]? = some d) : i < n ∧ d = .int (lo + i) := by
  simp only [rngD, List.getElem?_map, Option.map_eq_some_iff] at h
  obtain ⟨a, h1, h2⟩ := h
  obtain ⟨h3, h4⟩ := List.getElem?_eq_some_iff.mp h1
  simp at h3 h4
  subst h4
  exact ⟨h3, h2.symm⟩
theorem rng_len (lo : Int) (n : Nat) : (rngD lo n).length = n := by simp [rngD]
theorem run_word {cl : CL} {draw : Nat} (hd : Dr cl draw) {s : S} {n : Nat} {m : Int} (hp : PoolAt n s) (h0 : 0 ≤ m) (h : m ≤ 1000) :
    ∃ x s', runFn cl ⟨2, 5, bWord draw⟩ [.ref n, .int m] s = .ok (.str x) s' ∧ Low x ∧ (x.length : Int) = m ∧ Gr n s s' ∧ s'.length = s.length := by
  let I : Nat → Fr → S → Prop := fun i τ s' => ∃ x k, τ = [some (.ref n), some (.int m), some (.str letters), some (.str x), k] ∧ Low x ∧ x.length = i ∧ Gr n s s' ∧ s'.length = s.length
  have e1 : (Str.ofString "").length = 0 := by decide +kernel
  have e2 : Low (Str.ofString "") := by
    intro c hc
    have : (Str.ofString "").cps.toList = [] := by decide +kernel
    rw [this] at hc; cases hc
  obtain ⟨τ', s', h1, x, k, rfl, hx, hl, hg, hl2⟩ := forS_inv (ok := (Src.vals (rngD 0 m.toNat)).ok) (g := forB cl (.var 4) (.cons (.asg (.loc (.var 3)) (.bin .add (.var 3) (.ix (.var 2) (.call draw (.cons (.var 0) (.cons (.cst (.int 26)) .nil)))))) .nil))
    (items := rngD 0 m.toNat) (τ := [some (.ref n), some (.int m), some (.str letters), some (.str (Str.ofString "")), none]) (s := s) I (fun _ _ _ _ => trivial) (fun i d τ s' hi ⟨x, k, hτ, hx, hl, hg, hl2⟩ => by
      subst hτ
      obtain ⟨r, s2, q1, q2, q3, q4, q5⟩ := hd s' n 26 hg.pool (by decide) (by decide +kernel)
      obtain ⟨c, c1, c2⟩ := letter_ix q2 q3 (s := s2)
      have hil := (rng_at hi).1
      refine ⟨[some (.ref n), some (.int m), some (.str letters), some (.str (x ++ ⟨#[c]⟩)), some d], s2, ?_, x ++ ⟨#[c]⟩, _, rfl, low_app hx (low_one c2), by rw [len_app, hl]; rfl, hg.trans q4, by rw [q5, hl2]⟩
      rw [forB_var]
      refine (exs_nx (ex_asg ?_)).trans rfl
      walk_at "ev"
      rw [q1]; walk_at "ev"
      rw [c1]; walk_at "ev"
      simp only [binD, addD]
      rw [if_pos (by rw [hl, sizeLine_eq]; show i + 1 ≤ _; omega)]) ⟨_, none, rfl, e2, e1, Gr.refl hp, rfl⟩
  refine ⟨x, s', run_rt rfl ?_, hx, by rw [hl, rng_len]; omega, hg, hl2⟩
  refine (exs_nx (ex_asg (d := .str letters) (s' := s) rfl)).trans ?_
  refine (exs_nx (ex_asg (d := .str (Str.ofString "")) (s' := s) rfl)).trans ?_
  refine (exs_nx (τ' := [some (.ref n), some (.int m), some (.str letters), some (.str x), k]) (s' := s') ?_).trans (exs_rt (ex_ret rfl))
  rw [← h1]
  exact ex_for rfl (src_rng h0 (by omega) s)
/-- words, as a callee -/
def Wo (cl : CL) (word : Nat) : Prop := ∀ (s : S) (n : Nat) (m : Int), PoolAt n s → 0 ≤ m → m ≤ 1000 → ∃ x s', cl.call word [.ref n, .int m] s = .ok (.str x) s' ∧ Low x ∧ (x.length : Int) = m ∧ Gr n s s' ∧ s'.length = s.length
theorem wo_of {cl cl' : CL} {draw word : Nat} (hd : Dr cl draw) (h : ∀ ds s, cl'.call word ds s = runFn cl ⟨2, 5, bWord draw⟩ ds s) : Wo cl' word := fun s n m hp h0 h1 => by
  obtain ⟨x, s', a, b⟩ := run_word hd hp h0 h1
  exact ⟨x, s', by rw [h, a], b⟩
/-- the pool, made of the script -/
def bPool : Cms := .cons (.ret (.bin .add (.lst (.cons (.cst (.int 0)) (.cons (.cst (.int 4)) (.cons (.cst (.int 5)) (.cons (.cst (.int 0)) .nil))))) (.lc (.blt .int (.cons (.var 1) .nil)) (.var 1) .seq (.cons (.var 0) .nil) .nop [("_law_cell", 1)]))) .nil
theorem run_pool (cl : CL) (ns : List Int) (h : ns.length ≤ 63) : ∃ s n, runFn cl ⟨1, 2, bPool⟩ [.flst (ns.map .int)] [] = .ok (.ref n) s ∧ PoolAt n s := by
  have hlc : lcS (Src.vals (ns.map D.int)).ok (lcB cl [some (.flst (ns.map .int)), none] [1] (.var 1) .nop (.blt .int (.cons (.var 1) .nil))) (ns.map D.int) [.lst [.int 0, .int 4, .int 5, .int 0]]
        = .ok (ns.map D.int) [.lst [.int 0, .int 4, .int 5, .int 0]] := by
    obtain ⟨r, s', h1, h2, h3⟩ := lcS_inv (ok := (Src.vals (ns.map D.int)).ok) (items := ns.map D.int) (s := [.lst [.int 0, .int 4, .int 5, .int 0]]) (fun i r s => r = (ns.take i).map D.int ∧ s = [.lst [.int 0, .int 4, .int 5, .int 0]]) (fun _ _ _ _ => trivial)
      (g := lcB cl [some (.flst (ns.map .int)), none] [1] (.var 1) .nop (.blt .int (.cons (.var 1) .nil)))
      (fun i d r s hi ⟨hr, hs⟩ => by
        rw [List.getElem?_map, Option.map_eq_some_iff] at hi
        obtain ⟨x, hx, rfl⟩ := hi
        refine ⟨some (.int x), s, lcB_var rfl, ?_, hs⟩
        rw [hr]
        have : ns.take (i + 1) = ns.take i ++ [x] := by
          rw [List.take_add_one, hx]; rfl
        rw [this, List.map_append]; rfl) ⟨rfl, rfl⟩
    rw [h1, h2, h3, List.length_map, List.take_length]
  refine ⟨[.lst [.int 0, .int 4, .int 5, .int 0], .lst (ns.map .int), pool 0 4 5 0 ns], 2, run_rt rfl (exs_rt (ex_ret ?_)), ⟨_, rfl, ⟨0, 4, 5, 0, ns, rfl, by omega, by omega, by omega, by omega, by omega⟩⟩⟩
  have e2 : evE cl (.lc (.blt .int (.cons (.var 1) .nil)) (.var 1) .seq (.cons (.var 0) .nil) .nop [("_law_cell", 1)]) [some (.flst (ns.map .int)), none] [.lst [.int 0, .int 4, .int 5, .int 0]] = .ok (.ref 1) [.lst [.int 0, .int 4, .int 5, .int 0], .lst (ns.map .int)] :=
    ev_lc (s2 := [.lst [.int 0, .int 4, .int 5, .int 0]]) (r := ns.map .int) (src := .vals (ns.map .int)) rfl rfl (by show (ns.map D.int).length < _; rw [List.length_map, sizeLine_eq]; omega) hlc
  have e2 : (ev cl (.lc (.blt .int (.cons (.var 1) .nil)) (.var 1) .seq (.cons (.var 0) .nil) .nop [("_law_cell", 1)])).1 [some (.flst (ns.map .int)), none] [.lst [.int 0, .int 4, .int 5, .int 0]] = _ := e2
  show (R.ok (D.ref 0) [.lst [.int 0, .int 4, .int 5, .int 0]]).bind (fun x s => ((ev cl (.lc (.blt .int (.cons (.var 1) .nil)) (.var 1) .seq (.cons (.var 0) .nil) .nop [("_law_cell", 1)])).1 [some (.flst (ns.map .int)), none] s).bind fun y s => binD .add x y s) = _
  rw [R.bind_ok, e2, R.bind_ok]
  simp only [binD, addD, List.getElem?_cons_zero, List.getElem?_cons_succ]
  rw [if_pos (by simp only [List.length_cons, List.length_nil, List.length_map, sizeLine_eq]; omega)]
  rfl
end G

set_option Elab.async false
set_option linter.all false
set_option maxRecDepth 100000
set_option autoImplicit false
set_option maxHeartbeats 1000000
/-! Lw3: texts of plain signs; lists of texts compared. -/
namespace G
open PySem
/-- plain signs -/
def Asc (x : Str) : Prop := ∀ c ∈ x.cps.toList, c < 128
theorem Low.asc {x : Str} (h : Low x) : Asc x := fun c hc => by have := h c hc; omega
theorem asc_app {x y : Str} (hx : Asc x) (hy : Asc y) : Asc (x ++ y) := by
  intro c hc
  have : c ∈ (x.cps ++ y.cps).toList := hc
  rw [Array.toList_append] at this
  exact (List.mem_append.mp this).elim (hx c) (hy c)
theorem asc_cut {x : Str} (hx : Asc x) (lo hi : Option Int) : Asc (L2.cutS x lo hi) := by
  intro c hc
  unfold L2.cutS at hc
  rw [List.toList_toArray] at hc
  exact hx c (List.mem_of_mem_drop (List.mem_of_mem_take hc))
theorem asc_one {c : Nat} (h : c < 128) : Asc ⟨#[c]⟩ := by
  intro d hd
  have : d = c := by simpa using hd
  omega
theorem asc_fold {sep : Str} (hs : Asc sep) : ∀ (ys : List Str) (acc : Array Nat), (∀ y ∈ ys, Asc y) → (∀ c ∈ acc.toList, c < 128) → ∀ c ∈ (ys.foldl (fun acc p => acc ++ sep.cps ++ p.cps) acc).toList, c < 128
  | [], acc, _, h => h
  | y :: ys, acc, hy, h => by
    refine asc_fold hs ys _ (fun z hz => hy z (List.mem_cons_of_mem _ hz)) fun c hc => ?_
    rw [Array.toList_append, Array.toList_append] at hc
    rcases List.mem_append.mp hc with hc | hc
    · exact (List.mem_append.mp hc).elim (h c) (hs c)
    · exact hy y List.mem_cons_self c hc
theorem asc_join {sep : Str} (hs : Asc sep) {ys : List Str} (hy : ∀ y ∈ ys, Asc y) : Asc (Txt.join sep ys) := by
  unfold Txt.join Builtin.Str.glued
  refine asc_fold hs _ _ (fun y h => hy y (List.mem_of_mem_drop h)) ?_
  cases ys with
  | nil => intro c hc; cases hc
  | cons y ys => exact hy y List.mem_cons_self
theorem asc_ok {x : Str} (h : Asc x) : PyData.strOk x = true := by
  unfold PyData.strOk
  rw [Array.all_eq_true_iff_forall_mem]
  intro c hc
  have := h c (Array.mem_toList_iff.mpr hc)
  exact decide_eq_true (by omega)
theorem toPs_strs (k : Nat) (s : S) : ∀ ys : List Str, toPs k s (ys.map .str) = some (ys.map .str)
  | [] => by simp [toPs]
  | y :: ys => by simp only [List.map_cons, toPs, toP, toPs_strs k s ys]
theorem lay_strs : ∀ {ys : List Str}, (∀ y ∈ ys, Asc y) → PyData.canLayAll0 (ys.map .str) = true
  | [], _ => rfl
  | y :: ys, h => by
    simp only [List.map_cons, PyData.canLayAll0, PyData.canLay0, Bool.and_eq_true]
    exact ⟨asc_ok (h y List.mem_cons_self), lay_strs fun z hz => h z (List.mem_cons_of_mem _ hz)⟩
theorem depth_strs : ∀ ys : List Str, PyData.depthAll (ys.map .str) = 0
  | [] => by simp [PyData.depthAll]
  | y :: ys => by simp [PyData.depthAll, PyData.depth, depth_strs ys]
theorem shaped_strs {ys : List Str} (h : ∀ y ∈ ys, Asc y) : SeqAt.shaped (.list (ys.map .str)) = true := by
  unfold SeqAt.shaped
  simp only [PyData.canLay0, lay_strs h, PyData.depth, depth_strs, Bool.true_and]
  decide
theorem toP_ref {k n : Nat} {s : S} {ds : List D} (h : s[n]? = some (.lst ds)) : toP (k + 1) s (.ref n) = (toPs k s ds).map .list := by simp only [toP, h]
theorem eqD_lst {s : S} {m : Nat} {d : D} {ds : List D} (h : s[m]? = some (.lst ds)) : eqD (.ref m) d s = eqP (.ref m) d s := by
  cases d <;> first
    | rfl
    | simp only [eqD, h]
/-- a list of texts == [] -/
theorem eqD_nil {s : S} {m n : Nat} {ys : List Str} (h : ∀ y ∈ ys, Asc y) (h1 : s[m]? = some (.lst (ys.map .str))) (h2 : s[n]? = some (.lst [])) : eqD (.ref m) (.ref n) s = .ok ys.isEmpty s := by
  rw [eqD_lst h1]
  simp only [eqP, toP_ref h1, toP_ref h2, toPs_strs, toPs, Option.map_some]
  rw [if_pos ⟨shaped_strs h, by rfl⟩]
  congr 1
  cases ys <;> simp [PyData.eqv, PyData.eqvAll]
end G

set_option Elab.async false
set_option linter.all false
set_option maxRecDepth 100000
set_option autoImplicit false
set_option maxHeartbeats 1000000
/-! SLa: the defs that the laws about schemas share, as plain programs (printed by gen2.py). -/
namespace SL
open PySem PySem.Spec PyProof.Rows L2 G
/-- 374: is_integer -/
def b374 : Cms := .cons (.ret (.and (.isi (.var 0) .int) (.not (.isi (.var 0) .bool)))) .nil
def f374 : Fn := ⟨1, 1, b374⟩
/-- 389: is_word -/
def b389 : Cms := .cons (.ite (.or (.not (.isi (.var 0) .str)) (.not (.cmp2 .le .le (.cst (.int 1)) (.blt .len (.cons (.var 0) .nil)) (.cst (.int 8))))) (.cons (.ret (.cst (.bl false))) .nil) (.nil))
    (.cons (.for_ (.var 1) .seq (.cons (.var 0) .nil) (.cons (.ite (.cmp .nin (.var 1) (.glob 5)) (.cons (.ret (.cst (.bl false))) .nil) (.nil)) .nil))
    (.cons (.ret (.cst (.bl true))) .nil))
def f389 : Fn := ⟨1, 2, b389⟩
/-- 371: is_columns -/
def b371 : Cms := .cons (.ite (.not (.isi (.var 0) .tuple)) (.cons (.ret (.cst (.bl false))) .nil) (.nil))
    (.cons (.asg (.loc (.var 2)) (.neg (.cst (.int 1))))
    (.cons (.for_ (.var 3) .seq (.cons (.var 0) .nil) (.cons (.ite (.or (.not (.call 374 (.cons (.var 3) .nil))) (.not (.cmp2 .lt .lt (.var 2) (.var 3) (.var 1)))) (.cons (.ret (.cst (.bl false))) .nil) (.nil))
    (.cons (.asg (.loc (.var 2)) (.var 3)) .nil)))
    (.cons (.ret (.cst (.bl true))) .nil)))
def f371 : Fn := ⟨2, 4, b371⟩
/-- 355: check_tables -/
def b355 : Cms := .cons (.ite (.not (.cmp2 .le .le (.cst (.int 1)) (.blt .len (.cons (.var 0) .nil)) (.cst (.int 5)))) (.cons (.rse "InvalidSchema" (.cons (.cst (.str "tables")) (.cons (.cst .non) .nil))) .nil) (.nil))
    (.cons (.for_ (.var 1) .seq (.cons (.blt .sorted (.cons (.blt .list (.cons (.var 0) .nil)) .nil)) .nil) (.cons (.asg (.loc (.var 2)) (.ix (.var 0) (.var 1)))
    (.cons (.ite (.or (.not (.call 389 (.cons (.var 1) .nil))) (.or (.not (.call 374 (.cons (.var 2) .nil))) (.not (.cmp2 .le .le (.cst (.int 1)) (.var 2) (.cst (.int 4)))))) (.cons (.rse "InvalidSchema" (.cons (.cst (.str "tables")) (.cons (.var 1) .nil))) .nil) (.nil)) .nil))) .nil)
def f355 : Fn := ⟨1, 3, b355⟩
/-- 349: check_keys -/
def b349 : Cms := .cons (.for_ (.var 2) .seq (.cons (.blt .sorted (.cons (.blt .list (.cons (.var 1) .nil)) .nil)) .nil) (.cons (.ite (.or (.cmp .nin (.var 2) (.var 0)) (.not (.call 371 (.cons (.ix (.var 1) (.var 2)) (.cons (.ix (.var 0) (.var 2)) .nil))))) (.cons (.rse "InvalidSchema" (.cons (.cst (.str "keys")) (.cons (.var 2) .nil))) .nil) (.nil))
    (.cons (.ite (.not (.cmp2 .le .lt (.cst (.int 1)) (.blt .len (.cons (.ix (.var 1) (.var 2)) .nil)) (.ix (.var 0) (.var 2)))) (.cons (.rse "InvalidSchema" (.cons (.cst (.str "keys")) (.cons (.var 2) .nil))) .nil) (.nil)) .nil))) .nil
def f349 : Fn := ⟨2, 3, b349⟩
/-- 381: is_service -/
def b381 : Cms := .cons (.ite (.or (.not (.isi (.var 1) .tuple)) (.cmp .ne (.blt .len (.cons (.var 1) .nil)) (.cst (.int 3)))) (.cons (.ret (.cst (.bl false))) .nil) (.nil))
    (.cons (.asg (.loc (.tup [2, 3, 4])) (.var 1))
    (.cons (.ite (.or (.not (.call 389 (.cons (.var 2) .nil))) (.or (.cmp .nin (.var 2) (.var 0)) (.not (.call 371 (.cons (.var 3) (.cons (.ix (.var 0) (.var 2)) .nil)))))) (.cons (.ret (.cst (.bl false))) .nil) (.nil))
    (.cons (.ret (.or (.cmp .isn (.var 4) (.cst .non)) (.and (.call 374 (.cons (.var 4) .nil)) (.cmp2 .le .le (.cst (.int 1)) (.var 4) (.cst (.int 4)))))) .nil)))
def f381 : Fn := ⟨2, 5, b381⟩
/-- 354: check_services -/
def b354 : Cms := .cons (.ite (.not (.cmp2 .le .le (.cst (.int 1)) (.blt .len (.cons (.var 1) .nil)) (.cst (.int 8)))) (.cons (.rse "InvalidSchema" (.cons (.cst (.str "services")) (.cons (.cst .non) .nil))) .nil) (.nil))
    (.cons (.for_ (.var 2) .seq (.cons (.blt .sorted (.cons (.blt .list (.cons (.var 1) .nil)) .nil)) .nil) (.cons (.ite (.or (.not (.call 389 (.cons (.var 2) .nil))) (.not (.call 381 (.cons (.var 0) (.cons (.ix (.var 1) (.var 2)) .nil))))) (.cons (.rse "InvalidSchema" (.cons (.cst (.str "services")) (.cons (.var 2) .nil))) .nil) (.nil)) .nil)) .nil)
def f354 : Fn := ⟨2, 3, b354⟩
/-- 429: returns_all -/
def b429 : Cms := .cons (.asg (.loc (.tup [4, 5, 6])) (.var 2))
    (.cons (.ite (.or (.cmp .isn (.var 6) (.cst .non)) (.cmp .eq (.blt .len (.cons (.var 5) .nil)) (.ix (.var 0) (.var 4)))) (.cons (.ret (.cst (.bl true))) .nil) (.nil))
    (.cons (.ite (.cmp .nin (.var 4) (.var 1)) (.cons (.ret (.cst (.bl false))) .nil) (.nil))
    (.cons (.for_ (.var 3) .seq (.cons (.ix (.var 1) (.var 4)) .nil) (.cons (.ite (.cmp .nin (.var 3) (.var 5)) (.cons (.ret (.cst (.bl false))) .nil) (.nil)) .nil))
    (.cons (.ret (.cst (.bl true))) .nil))))
def f429 : Fn := ⟨3, 7, b429⟩
/-- 252: _law_pool -/
def b252 : Cms := .cons (.ret (.bin .add (.lst (.cons (.cst (.int 0)) (.cons (.cst (.int 4)) (.cons (.cst (.int 5)) (.cons (.cst (.int 0)) .nil))))) (.lc (.blt .int (.cons (.var 1) .nil)) (.var 1) .seq (.cons (.var 0) .nil) .nop [("_law_cell", 1)]))) .nil
def f252 : Fn := ⟨1, 2, b252⟩
/-- 224: _law_mixed -/
def b224 : Cms := .cons (.asg (.loc (.var 2)) (.bin .mod (.blt .int (.cons (.bin .mul (.bin .add (.bin .add (.var 0) (.bin .mul (.cst (.int 7919)) (.var 1))) (.cst (.int 1))) (.cst (.int 48271))) .nil)) (.cst (.int 2147483647))))
    (.cons (.asg (.loc (.var 2)) (.bin .mod (.blt .int (.cons (.bin .mul (.var 2) (.bin .add (.bin .fdiv (.var 2) (.cst (.int 1009))) (.cst (.int 69621)))) .nil)) (.cst (.int 2147483647))))
    (.cons (.ret (.bin .mod (.blt .int (.cons (.bin .mul (.var 2) (.bin .add (.bin .fdiv (.var 2) (.cst (.int 2003))) (.cst (.int 40692)))) .nil)) (.cst (.int 2147483399)))) .nil))
def f224 : Fn := ⟨2, 3, b224⟩
/-- 148: _law_draw -/
def b148 : Cms := .cons (.asg (.sub (.var 0) (.cst (.int 3))) (.bin .add (.ix (.var 0) (.cst (.int 3))) (.cst (.int 1))))
    (.cons (.ite (.and (.cmp .eq (.ix (.var 0) (.cst (.int 0))) (.cst (.int 0))) (.cmp .lt (.ix (.var 0) (.cst (.int 1))) (.blt .len (.cons (.var 0) .nil)))) (.cons (.asg (.loc (.var 2)) (.blt .abs (.cons (.ix (.var 0) (.ix (.var 0) (.cst (.int 1)))) .nil)))
    (.cons (.asg (.sub (.var 0) (.cst (.int 1))) (.bin .add (.ix (.var 0) (.cst (.int 1))) (.cst (.int 1))))
    (.cons (.ite (.cmp .lt (.var 2) (.bin .pow (.cst (.int 10)) (.cst (.int 18)))) (.cons (.asg (.sub (.var 0) (.cst (.int 2))) (.bin .mod (.blt .int (.cons (.bin .add (.bin .add (.bin .mul (.ix (.var 0) (.cst (.int 2))) (.cst (.int 7919))) (.var 2)) (.cst (.int 1))) .nil)) (.cst (.int 2147483647)))) .nil) (.cons (.asg (.sub (.var 0) (.cst (.int 0))) (.var 2)) .nil)) .nil))) (.nil))
    (.cons (.ite (.cmp .gt (.ix (.var 0) (.cst (.int 0))) (.cst (.int 0))) (.cons (.asg (.loc (.var 3)) (.bin .mod (.blt .int (.cons (.ix (.var 0) (.cst (.int 0))) .nil)) (.var 1)))
    (.cons (.asg (.sub (.var 0) (.cst (.int 0))) (.bin .fdiv (.ix (.var 0) (.cst (.int 0))) (.var 1)))
    (.cons (.ret (.var 3)) .nil))) (.nil))
    (.cons (.ret (.bin .mod (.blt .int (.cons (.call 224 (.cons (.ix (.var 0) (.cst (.int 2))) (.cons (.ix (.var 0) (.cst (.int 3))) .nil))) .nil)) (.var 1))) .nil)))
def f148 : Fn := ⟨2, 4, b148⟩
/-- 325: _law_word -/
def b325 : Cms := .cons (.asg (.loc (.var 2)) (.cst (.str "abcdefghijklmnopqrstuvwxyz")))
    (.cons (.asg (.loc (.var 3)) (.cst (.str "")))
    (.cons (.for_ (.var 4) .rng1 (.cons (.var 1) .nil) (.cons (.asg (.loc (.var 3)) (.bin .add (.var 3) (.ix (.var 2) (.call 148 (.cons (.var 0) (.cons (.cst (.int 26)) .nil)))))) .nil))
    (.cons (.ret (.var 3)) .nil)))
def f325 : Fn := ⟨2, 5, b325⟩
/-- 230: _law_names -/
def b230 : Cms := .cons (.asg (.loc (.var 2)) (.cst (.str "abcdefghijklmnopqrstuvwxyz")))
    (.cons (.asg (.loc (.var 3)) (.call 325 (.cons (.var 0) (.cons (.call 148 (.cons (.var 0) (.cons (.cst (.int 8)) .nil))) .nil))))
    (.cons (.asg (.loc (.var 4)) (.call 148 (.cons (.var 0) (.cons (.cst (.int 26)) .nil))))
    (.cons (.asg (.loc (.var 5)) (.ix (.lst (.cons (.cst (.int 1)) (.cons (.cst (.int 3)) (.cons (.cst (.int 5)) (.cons (.cst (.int 7)) (.cons (.cst (.int 9)) (.cons (.cst (.int 11)) .nil))))))) (.call 148 (.cons (.var 0) (.cons (.cst (.int 6)) .nil)))))
    (.cons (.asg (.loc (.var 6)) (.call 148 (.cons (.var 0) (.cons (.cst (.int 2)) .nil))))
    (.cons (.asg (.loc (.var 7)) (.lst .nil))
    (.cons (.for_ (.var 8) .rng1 (.cons (.var 1) .nil) (.cons (.asg (.loc (.var 9)) (.ix (.var 2) (.bin .mod (.blt .int (.cons (.bin .add (.var 4) (.bin .mul (.var 5) (.var 8))) .nil)) (.cst (.int 26)))))
    (.cons (.ite (.cmp .eq (.var 6) (.cst (.int 1))) (.cons (.expr (.meth .append (.var 7) (.cons (.bin .add (.var 9) (.var 3)) .nil))) .nil) (.cons (.expr (.meth .append (.var 7) (.cons (.bin .add (.var 3) (.var 9)) .nil))) .nil)) .nil)))
    (.cons (.ret (.var 7)) .nil)))))))
def f230 : Fn := ⟨2, 10, b230⟩
/-- 136: _law_columns -/
def b136 : Cms := .cons (.asg (.loc (.var 4)) (.lc (.var 5) (.var 5) .rng1 (.cons (.var 1) .nil) (.cmp .eq (.call 148 (.cons (.var 0) (.cons (.cst (.int 2)) .nil))) (.cst (.int 1))) [("_law_column", 5)]))
    (.cons (.ite (.cmp .lt (.blt .len (.cons (.var 4) .nil)) (.var 2)) (.cons (.asg (.loc (.var 4)) (.lst (.cons (.call 148 (.cons (.var 0) (.cons (.var 1) .nil))) .nil))) .nil) (.nil))
    (.cons (.ret (.blt .tuple (.cons (.sl (.var 4) .nop (.var 3)) .nil))) .nil))
def f136 : Fn := ⟨4, 6, b136⟩
/-- 298: _law_tables -/
def b298 : Cms := .cons (.asg (.loc (.var 3)) (.call 230 (.cons (.var 0) (.cons (.var 1) .nil))))
    (.cons (.asg (.loc (.var 4)) .dct)
    (.cons (.for_ (.var 5) .seq (.cons (.var 3) .nil) (.cons (.asg (.sub (.var 4) (.var 5)) (.bin .add (.cst (.int 1)) (.call 148 (.cons (.var 0) (.cons (.var 2) .nil))))) .nil))
    (.cons (.ret (.var 4)) .nil)))
def f298 : Fn := ⟨3, 6, b298⟩
/-- 210: _law_keys -/
def b210 : Cms := .cons (.asg (.loc (.var 2)) .dct)
    (.cons (.for_ (.var 3) .seq (.cons (.blt .list (.cons (.var 1) .nil)) .nil) (.cons (.ite (.and (.cmp .gt (.ix (.var 1) (.var 3)) (.cst (.int 1))) (.cmp .eq (.call 148 (.cons (.var 0) (.cons (.cst (.int 3)) .nil))) (.cst (.int 0)))) (.cons (.asg (.sub (.var 2) (.var 3)) (.call 136 (.cons (.var 0) (.cons (.ix (.var 1) (.var 3)) (.cons (.cst (.int 1)) (.cons (.bin .sub (.ix (.var 1) (.var 3)) (.cst (.int 1))) .nil)))))) .nil) (.nil)) .nil))
    (.cons (.ret (.var 2)) .nil))
def f210 : Fn := ⟨2, 4, b210⟩
/-- 198: _law_is_whole -/
def b198 : Cms := .cons (.asg (.loc (.tup [3, 4, 5])) (.var 2))
    (.cons (.ite (.or (.cmp .isn (.var 5) (.cst .non)) (.cmp .eq (.blt .len (.cons (.var 4) .nil)) (.ix (.var 0) (.var 3)))) (.cons (.ret (.cst (.bl true))) .nil) (.nil))
    (.cons (.ite (.cmp .nin (.var 3) (.var 1)) (.cons (.ret (.cst (.bl false))) .nil) (.nil))
    (.cons (.ret (.cmp .eq (.lc (.var 6) (.var 6) .seq (.cons (.ix (.var 1) (.var 3)) .nil) (.cmp .nin (.var 6) (.var 4)) [("_law_column", 6)]) (.lst .nil))) .nil)))
def f198 : Fn := ⟨3, 7, b198⟩
/-- 275: _law_services -/
def b275 : Cms := .cons (.asg (.loc (.var 5)) (.blt .list (.cons (.var 1) .nil)))
    (.cons (.asg (.loc (.var 6)) (.call 230 (.cons (.var 0) (.cons (.bin .add (.blt .len (.cons (.var 5) .nil)) (.var 4)) .nil))))
    (.cons (.asg (.loc (.var 7)) .dct)
    (.cons (.asg (.loc (.var 8)) (.lst .nil))
    (.cons (.for_ (.var 9) .rng1 (.cons (.blt .len (.cons (.var 6) .nil)) .nil) (.cons (.asg (.loc (.var 10)) (.ix (.var 5) (.bin .mod (.var 9) (.blt .len (.cons (.var 5) .nil)))))
    (.cons (.asg (.loc (.var 11)) (.ix (.var 3) (.call 148 (.cons (.var 0) (.cons (.blt .len (.cons (.var 3) .nil)) .nil)))))
    (.cons (.asg (.loc (.var 12)) (.tup (.cons (.var 10) (.cons (.call 136 (.cons (.var 0) (.cons (.ix (.var 1) (.var 10)) (.cons (.cst (.int 0)) (.cons (.cst (.int 4)) .nil))))) (.cons (.var 11) .nil)))))
    (.cons (.ite (.not (.call 198 (.cons (.var 1) (.cons (.var 2) (.cons (.var 12) .nil))))) (.cons (.ite (.cmp .inn (.var 10) (.var 8)) (.cons (.asg (.loc (.var 12)) (.tup (.cons (.var 10) (.cons (.ix (.var 12) (.cst (.int 1))) (.cons (.cst .non) .nil))))) .nil) (.cons (.expr (.meth .append (.var 8) (.cons (.var 10) .nil))) .nil)) .nil) (.nil))
    (.cons (.asg (.sub (.var 7) (.ix (.var 6) (.var 9))) (.var 12)) .nil))))))
    (.cons (.ret (.var 7)) .nil)))))
def f275 : Fn := ⟨5, 13, b275⟩
/-- 274: _law_schema_parts -/
def b274 : Cms := .cons (.asg (.loc (.var 5)) (.call 298 (.cons (.var 0) (.cons (.var 1) (.cons (.var 2) .nil)))))
    (.cons (.asg (.loc (.var 6)) (.call 210 (.cons (.var 0) (.cons (.var 5) .nil))))
    (.cons (.ret (.lst (.cons (.var 5) (.cons (.var 6) (.cons (.call 275 (.cons (.var 0) (.cons (.var 5) (.cons (.var 6) (.cons (.var 3) (.cons (.var 4) .nil)))))) .nil))))) .nil))
def f274 : Fn := ⟨5, 7, b274⟩
/-- 247: _law_pick -/
def b247 : Cms := .cons (.ret (.ix (.var 1) (.call 148 (.cons (.var 0) (.cons (.blt .len (.cons (.var 1) .nil)) .nil))))) .nil
def f247 : Fn := ⟨2, 2, b247⟩
/-- 76: Schema.__init__ -/
def b76 : Cms := .cons (.expr (.call 355 (.cons (.var 1) .nil)))
    (.cons (.expr (.call 349 (.cons (.var 1) (.cons (.var 2) .nil))))
    (.cons (.expr (.call 354 (.cons (.var 1) (.cons (.var 3) .nil))))
    (.cons (.asg (.loc (.var 4)) .dct)
    (.cons (.asg (.loc (.var 5)) .dct)
    (.cons (.for_ (.var 6) .seq (.cons (.blt .sorted (.cons (.blt .list (.cons (.var 3) .nil)) .nil)) .nil) (.cons (.asg (.loc (.var 7)) (.ix (.var 3) (.var 6)))
    (.cons (.asg (.sub (.var 4) (.var 6)) (.call 429 (.cons (.var 1) (.cons (.var 2) (.cons (.var 7) .nil)))))
    (.cons (.ite (.not (.ix (.var 4) (.var 6))) (.cons (.ite (.cmp .inn (.ix (.var 7) (.cst (.int 0))) (.var 5)) (.cons (.rse "InvalidSchema" (.cons (.cst (.str "capped")) (.cons (.var 6) .nil))) .nil) (.nil))
    (.cons (.asg (.sub (.var 5) (.ix (.var 7) (.cst (.int 0)))) (.var 6)) .nil)) (.nil)) .nil))))
    (.cons (.asg (.fld (.var 0) "width_table") (.dc (.var 6) (.ix (.var 1) (.var 6)) (.var 6) .seq (.cons (.blt .sorted (.cons (.blt .list (.cons (.var 1) .nil)) .nil)) .nil) [("name", 6)]))
    (.cons (.asg (.fld (.var 0) "key_table") (.dc (.var 6) (.ix (.var 2) (.var 6)) (.var 6) .seq (.cons (.blt .sorted (.cons (.blt .list (.cons (.var 2) .nil)) .nil)) .nil) [("name", 6)]))
    (.cons (.asg (.fld (.var 0) "service_table") (.dc (.var 6) (.ix (.var 3) (.var 6)) (.var 6) .seq (.cons (.blt .sorted (.cons (.blt .list (.cons (.var 3) .nil)) .nil)) .nil) [("name", 6)]))
    (.cons (.asg (.fld (.var 0) "whole_table") (.var 4))
    (.cons (.asg (.fld (.var 0) "capped_table") (.var 5)) .nil))))))))))
def f76 : Fn := ⟨4, 8, b76⟩
/-- 85: Schema.tables -/
def b85 : Cms := .cons (.ret (.blt .dict (.cons (.fld (.var 0) "width_table") .nil))) .nil
def f85 : Fn := ⟨1, 1, b85⟩
/-- 79: Schema.key_columns -/
def b79 : Cms := .cons (.ret (.blt .dict (.cons (.fld (.var 0) "key_table") .nil))) .nil
def f79 : Fn := ⟨1, 1, b79⟩
/-- 83: Schema.services -/
def b83 : Cms := .cons (.ret (.blt .dict (.cons (.fld (.var 0) "service_table") .nil))) .nil
def f83 : Fn := ⟨1, 1, b83⟩
end SL

set_option Elab.async false
set_option linter.all false
set_option maxRecDepth 100000
set_option autoImplicit false
set_option maxHeartbeats 1000000
/-! SLb: words, integers, columns. -/
namespace SL
open PySem G
/-- a thing that isinstance answers of -/
def Pl (s : S) : D → Prop
  | .ref n => (∃ ds, s[n]? = some (.lst ds)) ∨ ∃ kvs, s[n]? = some (.dct kvs)
  | _ => True
def wordB (x : Str) : Bool := decide (1 ≤ x.length ∧ x.length ≤ 8) && x.cps.toList.all fun c => decide (c ∈ letters.cps.toList)
def isWordD : D → Bool
  | .str x => wordB x
  | _ => false
def isS : D → Bool
  | .str _ => true
  | _ => false
def isB : D → Bool
  | .bl _ => true
  | _ => false
def isI : D → Bool
  | .int _ => true
  | .bl _ => true
  | _ => false
def isT : D → Bool
  | .tup _ => true
  | _ => false
def intOf : D → Bool
  | .int _ => true
  | _ => false
theorem isi_at {s : S} {d : D} (h : Pl s d) : isiD .str d s = .ok (isS d) s ∧ isiD .int d s = .ok (isI d) s ∧ isiD .bool d s = .ok (isB d) s ∧ isiD .tuple d s = .ok (isT d) s := by
  cases d <;> first
    | exact ⟨rfl, rfl, rfl, rfl⟩
    | (rcases h with ⟨ds, h⟩ | ⟨ds, h⟩ <;> simp only [isiD, h] <;> exact ⟨rfl, rfl, rfl, rfl⟩)
/-- what the program's and the laws' rules of words and integers need -/
structure B1 (Γ : Ga) : Prop where
  h374 : Γ.fns.lookup 374 = some f374
  h389 : Γ.fns.lookup 389 = some f389
  hl : Γ.consts.lookup 5 = some (.str letters)
theorem nin_sign {c : Nat} {s : S} : cmpD .nin (.str ⟨#[c]⟩) (.str letters) s = .ok (!decide (c ∈ letters.cps.toList)) s := rfl
theorem is_integer {Γ : Ga} (b : B1 Γ) {k : Nat} (hk : 1 ≤ k) {s : S} {d : D} (h : Pl s d) : (clF Γ k).call 374 [d] s = .ok (.bl (intOf d)) s := by
  obtain ⟨j, rfl, hj⟩ := lv hk
  refine call_rt b.h374 (τ := [some d]) rfl rfl (exs_ret ?_)
  obtain ⟨_, h1, h2, _⟩ := isi_at h
  simp only [evE, ev, plainT, List.getElem?_cons_zero, R.bind_ok, h1]
  cases d <;> first | rfl | (simp only [isI, R.bind_ok, h2]; rfl)
theorem chars_loop {cl : CL} {a : D} (hg : cl.glob 5 = some (.str letters)) : ∀ (x : List Nat) (b : Option D) (s : S) (X : Str),
    exs cl (.cons (.ret (.cst (.bl true))) .nil) [some a, b] s = .rt (.bl true) s →
    (forS (Src.vals (chars X)).ok (forB cl (.var 1) (.cons (.ite (.cmp .nin (.var 1) (.glob 5)) (.cons (.ret (.cst (.bl false))) .nil) (.nil)) .nil)) (x.map fun c => D.str ⟨#[c]⟩) [some a, b] s).bind (fun τ s => exs cl (.cons (.ret (.cst (.bl true))) .nil) τ s) = .rt (.bl (x.all fun c => decide (c ∈ letters.cps.toList))) s
  | [], b, s, X, h => by rw [List.map_nil, forS_nil trivial, SR.bind_nx]; exact h
  | c :: x, b, s, X, h => by
    rw [List.map_cons]
    have hc : evT cl (.cmp .nin (.var 1) (.glob 5)) [some a, some (.str ⟨#[c]⟩)] s = .ok (!decide (c ∈ letters.cps.toList)) s := by
      simp only [evT, ev, asB, plainT, List.getElem?_cons_succ, List.getElem?_cons_zero, R.bind_ok, hg]
      exact nin_sign
    by_cases hm : c ∈ letters.cps.toList
    · rw [forS_nx trivial (τ' := [some a, some (.str ⟨#[c]⟩)]) (s' := s)]
      · rw [chars_loop hg x _ s X rfl, List.all_cons, decide_eq_true hm, Bool.true_and]
      · rw [forB_var]
        refine (exs_skip ?_).trans rfl
        rw [decide_eq_true hm] at hc
        exact hc
    · rw [forS_rt trivial (x := .bl false) (s' := s)]
      · rw [SR.bind_rt, List.all_cons, decide_eq_false hm, Bool.false_and]
      · rw [forB_var]
        rw [decide_eq_false hm] at hc
        exact exs_in hc rfl
theorem is_word {Γ : Ga} (b : B1 Γ) {k : Nat} (hk : 1 ≤ k) {s : S} {d : D} (h : Pl s d) (hz : ∀ x, d = .str x → x.length ≤ 10000) : (clF Γ k).call 389 [d] s = .ok (.bl (isWordD d)) s := by
  obtain ⟨j, rfl, hj⟩ := lv hk
  have hi := (isi_at h).1
  refine call_rt b.h389 (τ := [some d, none]) rfl rfl ?_
  cases d with
  | str x =>
    have hx := hz x rfl
    have hc : evT (clF Γ j) (.or (.not (.isi (.var 0) .str)) (.not (.cmp2 .le .le (.cst (.int 1)) (.blt .len (.cons (.var 0) .nil)) (.cst (.int 8))))) [some (.str x), none] s = .ok (!decide (1 ≤ x.length ∧ x.length ≤ 8)) s := by
      simp only [evT, ev, evs, plainT, asB, List.getElem?_cons_zero, R.bind_ok, hi, isS, truD, Bool.not_true, Bool.false_eq_true, if_false, Cst.d, lenS (s := s) hx, cmpD, leD]
      by_cases h1 : 1 ≤ x.length
      · rw [decide_eq_true (by omega : (1 : Int) ≤ x.length), if_pos rfl]
        simp only [R.bind_ok]
        congr 1
        by_cases h2 : x.length ≤ 8
        · rw [decide_eq_true (by omega), decide_eq_true ⟨h1, h2⟩]
        · rw [decide_eq_false (by omega), decide_eq_false (fun z => h2 z.2)]
      · rw [decide_eq_false (by omega : ¬ (1 : Int) ≤ x.length), if_neg Bool.false_ne_true, decide_eq_false (fun z => h1 z.1)]
        rfl
    by_cases hl : 1 ≤ x.length ∧ x.length ≤ 8
    · rw [decide_eq_true hl] at hc
      refine (exs_skip hc).trans ?_
      have hw : isWordD (.str x) = x.cps.toList.all fun c => decide (c ∈ letters.cps.toList) := by simp only [isWordD, wordB, decide_eq_true hl, Bool.true_and]
      rw [hw]
      exact (chars_loop (cl := clF Γ j) b.hl x.cps.toList none s x rfl)
    · rw [decide_eq_false hl] at hc
      have hw : isWordD (.str x) = false := by simp only [isWordD, wordB, decide_eq_false hl, Bool.false_and]
      rw [hw]
      exact exs_in hc rfl
  | _ =>
    refine exs_in (s' := s) ?_ rfl
    simp only [evT, ev, plainT, List.getElem?_cons_zero, R.bind_ok, hi, isS, truD, Bool.not_false, if_true]

/-- column by column -/
def colsB : Int → Int → List D → Bool
  | _, _, [] => true
  | l, w, .int c :: ds => decide (l < c) && decide (c < w) && colsB c w ds
  | _, _, _ => false
def isColsD (d : D) (w : Int) : Bool := match d with
  | .tup ds => colsB (-1) w ds
  | _ => false
structure B2 (Γ : Ga) : Prop extends B1 Γ where
  h371 : Γ.fns.lookup 371 = some f371
theorem cols_loop {Γ : Ga} (b : B2 Γ) {k : Nat} (hk : 1 ≤ k) {a : D} {w : Int} {s : S} : ∀ (ds : List D) (l : Int) (x : Option D), (∀ d ∈ ds, Pl s d) →
    (forS (Src.vals ds).ok (forB (clF Γ k) (.var 3) (.cons (.ite (.or (.not (.call 374 (.cons (.var 3) .nil))) (.not (.cmp2 .lt .lt (.var 2) (.var 3) (.var 1)))) (.cons (.ret (.cst (.bl false))) .nil) (.nil))
      (.cons (.asg (.loc (.var 2)) (.var 3)) .nil))) ds [some a, some (.int w), some (.int l), x] s).bind (fun τ s => exs (clF Γ k) (.cons (.ret (.cst (.bl true))) .nil) τ s) = .rt (.bl (colsB l w ds)) s := by
  suffices h : ∀ (ds : List D) (ok : S → Prop) (_ : ∀ s, ok s) (l : Int) (x : Option D), (∀ d ∈ ds, Pl s d) →
    (forS ok (forB (clF Γ k) (.var 3) (.cons (.ite (.or (.not (.call 374 (.cons (.var 3) .nil))) (.not (.cmp2 .lt .lt (.var 2) (.var 3) (.var 1)))) (.cons (.ret (.cst (.bl false))) .nil) (.nil))
      (.cons (.asg (.loc (.var 2)) (.var 3)) .nil))) ds [some a, some (.int w), some (.int l), x] s).bind (fun τ s => exs (clF Γ k) (.cons (.ret (.cst (.bl true))) .nil) τ s) = .rt (.bl (colsB l w ds)) s from
    fun ds l x hd => h ds _ (fun _ => trivial) l x hd
  intro ds ok hok
  induction ds with
  | nil => intro l x _; rw [forS_nil (hok s), SR.bind_nx]; rfl
  | cons d ds ih =>
    intro l x hd
    have hi := is_integer b.toB1 hk (hd d (by simp))
    have hc : evT (clF Γ k) (.or (.not (.call 374 (.cons (.var 3) .nil))) (.not (.cmp2 .lt .lt (.var 2) (.var 3) (.var 1)))) [some a, some (.int w), some (.int l), some d] s = .ok (!colsB l w [d]) s := by
      simp only [evT, ev, evs, plainT, asB, List.getElem?_cons_zero, List.getElem?_cons_succ, R.bind_ok, hi, truD]
      cases d <;> first
        | rfl
        | (rename_i c
           simp only [intOf, Bool.not_true, Bool.false_eq_true, if_false, R.bind_ok, cmpD, ltD, colsB, Bool.and_true]
           by_cases h1 : l < c
           · rw [decide_eq_true h1, if_pos rfl]; rfl
           · rw [decide_eq_false h1, if_neg Bool.false_ne_true]; rfl)
    by_cases hq : colsB l w [d] = true
    · rw [hq] at hc
      obtain ⟨c, rfl, e⟩ : ∃ c, d = .int c ∧ colsB l w (.int c :: ds) = colsB c w ds := by
        cases d <;> first
          | (cases hq; done)
          | (rename_i c
             simp only [colsB, Bool.and_true] at hq
             exact ⟨c, rfl, by simp only [colsB, hq, Bool.true_and]⟩)
      rw [forS_nx (hok s) (τ' := [some a, some (.int w), some (.int c), some (.int c)]) (s' := s)]
      · rw [ih c _ fun z hz => hd z (by simp [hz]), e]
      · rw [forB_var]
        exact (exs_skip hc).trans (exs_asg rfl)
    · have hq : colsB l w [d] = false := by simpa using hq
      rw [hq] at hc
      rw [forS_rt (hok s) (x := .bl false) (s' := s)]
      · have e : colsB l w (d :: ds) = false := by
          cases d <;> first
            | rfl
            | (simp only [colsB, Bool.and_true] at hq; simp only [colsB, hq, Bool.false_and])
        rw [SR.bind_rt, e]
      · rw [forB_var]
        exact exs_in hc rfl
theorem is_columns {Γ : Ga} (b : B2 Γ) {k : Nat} (hk : 2 ≤ k) {s : S} {d : D} {w : Int} (h : Pl s d) (ht : ∀ ds, d = .tup ds → ∀ z ∈ ds, Pl s z) : (clF Γ k).call 371 [d, .int w] s = .ok (.bl (isColsD d w)) s := by
  obtain ⟨j, rfl, hj⟩ := lv hk
  have hi := (isi_at h).2.2.2
  refine call_rt b.h371 (τ := [some d, some (.int w), none, none]) rfl rfl ?_
  cases d with
  | tup ds =>
    refine (exs_skip (s' := s) ?_).trans ((exs_asg (d := .int (-1)) (s' := s) rfl).trans ?_)
    · simp only [evT, ev, plainT, List.getElem?_cons_zero, R.bind_ok, hi, isT, truD, Bool.not_true]
    · exact cols_loop b hj ds (-1) none (ht ds rfl)
  | _ =>
    refine exs_in (s' := s) ?_ rfl
    simp only [evT, ev, plainT, List.getElem?_cons_zero, R.bind_ok, hi, isT, truD, Bool.not_false, if_true]
end SL

set_option Elab.async false
set_option linter.all false
set_option maxRecDepth 100000
set_option autoImplicit false
set_option maxHeartbeats 1000000
/-! SLc: services, one by one. -/
namespace SL
open PySem L2 G
section
variable {s : S} {n : Nat} {kvs : List (Key × D)} {x : Str} {d : D}
theorem dctAt_at (h : s[n]? = some (.dct kvs)) : dctAt s n = some kvs := by unfold dctAt; rw [h]
theorem nin_dct (h : s[n]? = some (.dct kvs)) : cmpD .nin (.str x) (.ref n) s = .ok (!(getK kvs (.inr x)).isSome) s := by
  simp only [cmpD, inD, h, keyD, R.bind_ok]
theorem inn_dct (h : s[n]? = some (.dct kvs)) : cmpD .inn (.str x) (.ref n) s = .ok (getK kvs (.inr x)).isSome s := by
  simp only [cmpD, inD, h, keyD]
theorem ix_dct (h : s[n]? = some (.dct kvs)) (e : getK kvs (.inr x) = some d) : ixD (.ref n) (.str x) s = .ok d s := by
  simp only [ixD, dctAt_at h, keyD, Option.bind_some, e]
theorem len_dct (h : s[n]? = some (.dct kvs)) : bltD .len [.ref n] s = .ok (.int kvs.length) s := by
  simp only [bltD, dctOf, dctAt_at h]
theorem neI {i j : Int} : cmpD .ne (.int i) (.int j) s = .ok (!(i == j)) s := by
  have := eqI (s := s) (i := i) (j := j)
  simp only [cmpD] at this ⊢
  rw [this]; rfl
end
/-- a cap -/
def isCapD : D → Bool
  | .non => true
  | .int c => decide (1 ≤ c) && decide (c ≤ 4)
  | _ => false
def isServD (ts : List (Key × D)) : D → Bool
  | .tup [.str t, g, c] => wordB t && (match getK ts (.inr t) with
    | some (.int w) => isColsD g w && isCapD c
    | _ => false)
  | _ => false
/-- what may stand at a service's place -/
def SvOk (s : S) (d : D) : Prop := Pl s d ∧ ∀ ds, d = .tup ds → ∀ z ∈ ds, Pl s z ∧ (∀ x, z = .str x → x.length ≤ 10000) ∧ ∀ es, z = .tup es → ∀ y ∈ es, Pl s y
def TbOk (ts : List (Key × D)) : Prop := ∀ k v, getK ts k = some v → ∃ w, v = .int w
structure B3 (Γ : Ga) : Prop extends B2 Γ where
  h381 : Γ.fns.lookup 381 = some f381
theorem cap_ok {Γ : Ga} (b : B1 Γ) {k : Nat} (hk : 1 ≤ k) {s : S} {τ : Fr} {c : D} (hc : τ[4]? = some (some c)) (h : Pl s c) :
    evE (clF Γ k) (.or (.cmp .isn (.var 4) (.cst .non)) (.and (.call 374 (.cons (.var 4) .nil)) (.cmp2 .le .le (.cst (.int 1)) (.var 4) (.cst (.int 4))))) τ s = .ok (.bl (isCapD c)) s := by
  have hi := is_integer b hk h
  have e1 : cmpD .isn c .non s = .ok c.isNon s := rfl
  simp only [evE, ev, evs, plainT, asB, hc, R.bind_ok, Cst.d, e1]
  cases c <;> first
    | rfl
    | (simp only [D.isNon, R.bind_ok, hi, intOf]; rfl)
    | (rename_i c
       simp only [D.isNon, R.bind_ok, hi, intOf, cmpD, leD, isCapD]
       by_cases h1 : 1 ≤ c
       · rw [decide_eq_true h1, if_pos rfl]; rfl
       · rw [decide_eq_false h1, if_neg Bool.false_ne_true]; rfl)
theorem is_service {Γ : Ga} (b : B3 Γ) {k : Nat} (hk : 3 ≤ k) {s : S} {m : Nat} {ts : List (Key × D)} {d : D} (hm : s[m]? = some (.dct ts)) (ht : TbOk ts) (h : SvOk s d) : (clF Γ k).call 381 [.ref m, d] s = .ok (.bl (isServD ts d)) s := by
  obtain ⟨j, rfl, hj⟩ := lv hk
  have hi := (isi_at h.1).2.2.2
  refine call_rt b.h381 (τ := [some (.ref m), some d, none, none, none]) rfl rfl ?_
  cases d with
  | tup ds =>
    have hc : evT (clF Γ j) (.or (.not (.isi (.var 1) .tuple)) (.cmp .ne (.blt .len (.cons (.var 1) .nil)) (.cst (.int 3)))) [some (.ref m), some (.tup ds), none, none, none] s = .ok (!((ds.length : Int) == 3)) s := by
      have e2 : bltD .len [.tup ds] s = .ok (.int ds.length) s := rfl
      simp only [evT, ev, evs, plainT, asB, List.getElem?_cons_zero, List.getElem?_cons_succ, R.bind_ok, hi, isT, truD, Bool.not_true, Bool.false_eq_true, if_false, e2, Cst.d, neI]
    match ds, h, hi, hc with
    | [t, g, c], h, hi, hc =>
      refine (exs_skip (s' := s) hc).trans ?_
      refine (exs_nx (τ' := [some (.ref m), some (.tup [t, g, c]), some t, some g, some c]) (s' := s) rfl).trans ?_
      obtain ⟨t1, t2, _⟩ := h.2 _ rfl t (by simp)
      obtain ⟨g1, _, g3⟩ := h.2 _ rfl g (by simp)
      obtain ⟨c1, _, _⟩ := h.2 _ rfl c (by simp)
      have w1 := is_word b.toB1 (k := j) (by omega) t1 t2
      have no : isWordD t = false → exs (clF Γ j) (.cons (.ite (.or (.not (.call 389 (.cons (.var 2) .nil))) (.or (.cmp .nin (.var 2) (.var 0)) (.not (.call 371 (.cons (.var 3) (.cons (.ix (.var 0) (.var 2)) .nil)))))) (.cons (.ret (.cst (.bl false))) .nil) (.nil))
          (.cons (.ret (.or (.cmp .isn (.var 4) (.cst .non)) (.and (.call 374 (.cons (.var 4) .nil)) (.cmp2 .le .le (.cst (.int 1)) (.var 4) (.cst (.int 4)))))) .nil)) [some (.ref m), some (.tup [t, g, c]), some t, some g, some c] s = .rt (.bl false) s := fun hw => by
        refine exs_in (s' := s) ?_ rfl
        simp only [evT, ev, evs, plainT, asB, List.getElem?_cons_zero, List.getElem?_cons_succ, R.bind_ok, w1, truD, hw, Bool.not_false, if_true]
      cases t with
      | str x =>
        by_cases hw : wordB x = true
        · cases hg : getK ts (.inr x) with
          | none =>
            have e : isServD ts (.tup [.str x, g, c]) = false := by simp only [isServD, hg, Bool.and_false]
            rw [e]
            refine exs_in (s' := s) ?_ rfl
            simp only [evT, ev, evs, plainT, asB, List.getElem?_cons_zero, List.getElem?_cons_succ, R.bind_ok, w1, truD, isWordD, hw, Bool.not_true, Bool.false_eq_true, if_false, nin_dct hm, hg, Option.isSome_none, Bool.not_false, if_true]
          | some v =>
            obtain ⟨w, rfl⟩ := ht _ _ hg
            have hcl := is_columns b.toB2 (k := j) hj g1 (w := w) g3
            have e : isServD ts (.tup [.str x, g, c]) = (isColsD g w && isCapD c) := by simp only [isServD, hg, hw, Bool.true_and]
            rw [e]
            have hcond : evT (clF Γ j) (.or (.not (.call 389 (.cons (.var 2) .nil))) (.or (.cmp .nin (.var 2) (.var 0)) (.not (.call 371 (.cons (.var 3) (.cons (.ix (.var 0) (.var 2)) .nil)))))) [some (.ref m), some (.tup [.str x, g, c]), some (.str x), some g, some c] s = .ok (!isColsD g w) s := by
              simp only [evT, ev, evs, plainT, asB, List.getElem?_cons_zero, List.getElem?_cons_succ, R.bind_ok, w1, truD, isWordD, hw, Bool.not_true, Bool.false_eq_true, if_false, nin_dct hm, hg, Option.isSome_some, ix_dct hm hg, hcl]
            cases hq : isColsD g w with
            | true =>
              rw [hq] at hcond
              refine (exs_skip hcond).trans (exs_ret ?_)
              rw [Bool.true_and]
              exact cap_ok b.toB1 (by omega) rfl c1
            | false =>
              rw [hq] at hcond
              rw [Bool.false_and]
              exact exs_in hcond rfl
        · have hw : wordB x = false := by simpa using hw
          have e : isServD ts (.tup [.str x, g, c]) = false := by simp only [isServD, hw, Bool.false_and]
          rw [e]
          exact no hw
      | _ => exact no rfl
    | [], h, hi, hc => exact exs_in hc rfl
    | [a], h, hi, hc =>
      rw [show isServD ts (.tup [a]) = false by unfold isServD; split <;> first | rfl | (rename_i q; cases q)]
      exact exs_in hc rfl
    | [a, b2], h, hi, hc =>
      rw [show isServD ts (.tup [a, b2]) = false by unfold isServD; split <;> first | rfl | (rename_i q; cases q)]
      exact exs_in hc rfl
    | a :: b2 :: c :: e :: r, h, hi, hc =>
      have : ((((a :: b2 :: c :: e :: r).length : Nat) : Int) == 3) = false := by simp; omega
      rw [this] at hc
      have e2 : isServD ts (.tup (a :: b2 :: c :: e :: r)) = false := by
        unfold isServD
        split
        · rename_i q; cases q
        · rfl
      rw [e2]
      exact exs_in hc rfl
  | _ =>
    refine exs_in (s' := s) ?_ rfl
    simp only [evT, ev, evs, plainT, asB, List.getElem?_cons_zero, List.getElem?_cons_succ, R.bind_ok, hi, isT, truD, Bool.not_false, if_true]
end SL

set_option Elab.async false
set_option linter.all false
set_option maxRecDepth 100000
set_option autoImplicit false
set_option maxHeartbeats 1000000
/-! SLd: the tables checked. -/
namespace SL
open PySem L2 G
/-- the store has only grown -/
def Gro (s s' : S) : Prop := ∃ l, s' = s ++ l
theorem Gro.refl (s : S) : Gro s s := ⟨[], by simp⟩
theorem Gro.trans {a b c : S} (h : Gro a b) (g : Gro b c) : Gro a c := by
  obtain ⟨l, rfl⟩ := h
  obtain ⟨r, rfl⟩ := g
  exact ⟨l ++ r, by simp⟩
theorem Gro.at {s s' : S} (h : Gro s s') {n : Nat} {o : O} (e : s[n]? = some o) : s'[n]? = some o := by
  obtain ⟨l, rfl⟩ := h
  rw [List.getElem?_append_left (List.getElem?_eq_some_iff.mp e).1]; exact e
theorem Gro.new (s : S) (o : O) : Gro s (s ++ [o]) := ⟨[o], rfl⟩
theorem Pl.mono {s s' : S} (h : Gro s s') {d : D} (p : Pl s d) : Pl s' d := by
  cases d <;> first
    | trivial
    | exact p.imp (fun ⟨ds, e⟩ => ⟨ds, h.at e⟩) fun ⟨ds, e⟩ => ⟨ds, h.at e⟩
/-- a dict whose keys are texts -/
def DK (ts : List (Str × D)) : List (Key × D) := ts.map fun p => (.inr p.1, p.2)
theorem getK_DK (ts : List (Str × D)) (x : Str) : getK (DK ts) (.inr x) = getK ts x := by
  unfold getK DK
  induction ts with
  | nil => rfl
  | cons p ts ih =>
    simp only [List.map_cons, List.find?_cons]
    by_cases e : p.1 = x
    · have e2 : (Sum.inr p.1 : Key) = Sum.inr x := by rw [e]
      simp only [decide_eq_true e, decide_eq_true e2, Option.map_some]
    · have e2 : ¬ (Sum.inr p.1 : Key) = Sum.inr x := fun z => e (Sum.inr.inj z)
      simp only [decide_eq_false e, decide_eq_false e2]
      exact ih
theorem getK_mem {ts : List (Str × D)} {x : Str} (h : x ∈ ts.map (·.1)) : ∃ d, getK ts x = some d ∧ (x, d) ∈ ts := by
  induction ts with
  | nil => cases h
  | cons p ts ih =>
    unfold getK at ih ⊢
    by_cases e : p.1 = x
    · exact ⟨p.2, by simp [List.find?_cons, e], by rw [← e]; simp⟩
    · obtain ⟨d, h1, h2⟩ := ih (by
        rcases List.mem_cons.mp h with z | z
        · exact absurd z.symm e
        · exact z)
      exact ⟨d, by simp only [List.find?_cons, decide_eq_false e]; exact h1, by simp [h2]⟩
theorem list_dct {s : S} {n : Nat} {ts : List (Str × D)} (h : s[n]? = some (.dct (DK ts))) : bltD .list [.ref n] s = .ok (.ref s.length) (s ++ [.lst ((ts.map (·.1)).map .str)]) := by
  have e : (DK ts).map (fun p => dKey p.1) = (ts.map (·.1)).map D.str := by
    unfold DK
    rw [List.map_map, List.map_map]
    rfl
  simp only [bltD, dctOf, dctAt_at h, new, e]
theorem strsOf_map : ∀ ys : List Str, strsOf (ys.map .str) = some ys
  | [] => rfl
  | y :: ys => by simp only [List.map_cons, strsOf, strsOf_map ys, Option.map_some]
theorem sorted_lst {s : S} {n : Nat} {ys : List Str} (h : s[n]? = some (.lst (ys.map .str))) (hl : ys.length < 64) : bltD .sorted [.ref n] s = .ok (.ref s.length) (s ++ [.lst ((sortT ys).map .str)]) := by
  simp only [bltD, lstAt_of h, Option.bind_some, strsOf_map, if_pos hl, new]
theorem mem_sortT {ys : List Str} {x : Str} : x ∈ sortT ys ↔ x ∈ ys := (List.mergeSort_perm ys leT).mem_iff
/-- sorted(list(d)) -/
theorem names_of {cl : CL} {τ : Fr} {s : S} {i n : Nat} {ts : List (Str × D)} (hi : τ[i]? = some (some (.ref n))) (h : s[n]? = some (.dct (DK ts))) (hl : ts.length < 64) :
    ∃ m s', Gro s s' ∧ s'[m]? = some (.lst ((sortT (ts.map (·.1))).map .str)) ∧ evs cl (.cons (.blt .sorted (.cons (.blt .list (.cons (.var i) .nil)) .nil)) .nil) τ s = .ok [.ref m] s' := by
  refine ⟨_, _, (Gro.new s (.lst ((ts.map (·.1)).map .str))).trans (Gro.new _ (.lst ((sortT (ts.map (·.1))).map .str))), new_at, ?_⟩
  simp only [evs, ev, plainT, hi, R.bind_ok, list_dct h, sorted_lst (ys := ts.map (·.1)) new_at (by simpa using hl)]
def widB : D → Bool
  | .int w => decide (1 ≤ w) && decide (w ≤ 4)
  | _ => false
/-- a table's name that is refused -/
def badT (ts : List (Str × D)) (x : Str) : Bool := !(wordB x && (match getK ts x with
  | some d => widB d
  | none => false))
def faultT (ts : List (Str × D)) : Option D := if 1 ≤ ts.length ∧ ts.length ≤ 5 then ((sortT (ts.map (·.1))).find? (badT ts)).map .str else some .non
def refuse (part : Str) (s : S) : Option D → R D
  | none => .ok .non s
  | some d => .exc "InvalidSchema" [("name", d), ("part", .str part)] s
structure B4 (Γ : Ga) : Prop extends B3 Γ where
  h355 : Γ.fns.lookup 355 = some f355
  he : ∃ sp, Γ.ecl.lookup ("InvalidSchema" : Str) = some ⟨["part", "name"], sp⟩
theorem rse_is {Γ : Ga} (b : B4 Γ) {k : Nat} {τ : Fr} {s : S} {part : Str} {e : Ex} {d : D} {cs : Cms} (h : evE (clF Γ k) e τ s = .ok d s) :
    exs (clF Γ k) (.cons (.rse "InvalidSchema" (.cons (.cst (.str part)) (.cons e .nil))) cs) τ s = .exc τ "InvalidSchema" [("name", d), ("part", .str part)] s := by
  obtain ⟨sp, he⟩ := b.he
  have he : (clF Γ k).ecl "InvalidSchema" = some ⟨["part", "name"], sp⟩ := he
  have h : (ev (clF Γ k) e).1 τ s = .ok d s := h
  simp only [exs, ex, he, evs, ev, plainT, R.bind_ok, Cst.d, h, R.toS_ok, List.length_cons, List.length_nil, if_true, SR.bind_exc]
  rfl
theorem wid_ok {Γ : Ga} (b : B1 Γ) {k : Nat} (hk : 1 ≤ k) {s : S} {τ : Fr} {x : Str} {d : D} (h1 : τ[1]? = some (some (.str x))) (h2 : τ[2]? = some (some d)) (hp : Pl s d) (hx : x.length ≤ 10000) :
    evT (clF Γ k) (.or (.not (.call 389 (.cons (.var 1) .nil))) (.or (.not (.call 374 (.cons (.var 2) .nil))) (.not (.cmp2 .le .le (.cst (.int 1)) (.var 2) (.cst (.int 4)))))) τ s = .ok (!(wordB x && widB d)) s := by
  have w1 := is_word b hk (s := s) (d := .str x) trivial (fun y e => by cases e; exact hx)
  have i1 := is_integer b hk hp
  simp only [evT, ev, evs, plainT, asB, h1, h2, R.bind_ok, w1, truD, isWordD]
  cases wordB x with
  | false => rfl
  | true =>
    simp only [Bool.not_true, Bool.false_eq_true, if_false, i1, R.bind_ok, truD, Bool.true_and]
    cases d <;> first
      | rfl
      | (rename_i w
         simp only [intOf, Bool.not_true, Bool.false_eq_true, if_false, Cst.d, R.bind_ok, cmpD, leD, widB]
         by_cases q : 1 ≤ w
         · rw [decide_eq_true q, if_pos rfl]; rfl
         · rw [decide_eq_false q, if_neg Bool.false_ne_true]; rfl)
end SL
namespace SL
open PySem L2 G
theorem forS_exc {ok : S → Prop} {g : D → Fr → S → SR} {d : D} {ds : List D} {τ τ' : Fr} {s s' : S} {c : Str} {fs : List (Str × D)} (h : ok s) (e : g d τ s = .exc τ' c fs s') : forS ok g (d :: ds) τ s = .exc τ' c fs s' := by
  unfold forS
  rw [if_pos h, e]
/-- a loop over names that refuses the first bad one -/
def lpEnd (part : Str) (τ : Fr) (s : S) : Option Str → SR
  | none => .nx τ s
  | some y => .exc τ "InvalidSchema" [("name", .str y), ("part", .str part)] s
theorem loop_names {ok : S → Prop} {g : D → Fr → S → SR} {s : S} {part : Str} {bad : Str → Bool} {I : Fr → Prop} {P : Str → Prop} (hok : ok s) (step : ∀ (y : Str) (τ : Fr), P y → I τ → ∃ τ', I τ' ∧ g (.str y) τ s = lpEnd part τ' s (if bad y = true then some y else none)) :
    ∀ (ys : List Str) (τ : Fr), (∀ y ∈ ys, P y) → I τ → ∃ τ', I τ' ∧ forS ok g (ys.map .str) τ s = lpEnd part τ' s (ys.find? bad)
  | [], τ, _, h => ⟨τ, h, by rw [List.map_nil, forS_nil hok]; rfl⟩
  | y :: ys, τ, hp, h => by
    obtain ⟨τ1, i1, e1⟩ := step y τ (hp y (by simp)) h
    rw [List.map_cons, List.find?_cons]
    cases hb : bad y with
    | true =>
      rw [hb, if_pos rfl] at e1
      exact ⟨τ1, i1, by rw [forS_exc hok e1]; rfl⟩
    | false =>
      rw [hb, if_neg Bool.false_ne_true] at e1
      obtain ⟨τ2, i2, e2⟩ := loop_names hok step ys τ1 (fun z hz => hp z (by simp [hz])) i1
      exact ⟨τ2, i2, by rw [forS_nx hok e1]; exact e2⟩
theorem call_nx {Γ : Ga} {k f : Nat} {fn : Fn} {ds : List D} {s s' : S} {τ τ' : Fr} (h : Γ.fns.lookup f = some fn) (hl : ds.length = fn.np) (hτ : ds.map some ++ List.replicate (fn.nl - fn.np) none = τ) (hb : exs (clF Γ k) fn.body τ s = .nx τ' s') : (clF Γ (k + 1)).call f ds s = .ok .non s' :=
  (call_of h ds s).trans (run_nx hl (by rw [hτ]; exact hb))
theorem call_ex {Γ : Ga} {k f : Nat} {fn : Fn} {ds : List D} {s s' : S} {τ τ' : Fr} {c : Str} {fs : List (Str × D)} (h : Γ.fns.lookup f = some fn) (hl : ds.length = fn.np) (hτ : ds.map some ++ List.replicate (fn.nl - fn.np) none = τ) (hb : exs (clF Γ k) fn.body τ s = .exc τ' c fs s') : (clF Γ (k + 1)).call f ds s = .exc c fs s' :=
  (call_of h ds s).trans (by unfold runFn; rw [if_pos hl, hτ, hb])
/-- a dict of things that the checks may look at -/
def Vals (s : S) (ts : List (Str × D)) : Prop := ts.length < 64 ∧ ∀ p ∈ ts, p.1.length ≤ 10000 ∧ Pl s p.2
theorem check_tables {Γ : Ga} (b : B4 Γ) {k : Nat} (hk : 2 ≤ k) {s : S} {n : Nat} {ts : List (Str × D)} (hn : s[n]? = some (.dct (DK ts))) (hv : Vals s ts) : ∃ s', Gro s s' ∧ (clF Γ k).call 355 [.ref n] s = refuse "tables" s' (faultT ts) := by
  obtain ⟨j, rfl, hj⟩ := lv hk
  have hlen : bltD .len [.ref n] s = .ok (.int ts.length) s := by rw [len_dct hn]; simp [DK]
  have hc : evT (clF Γ j) (.not (.cmp2 .le .le (.cst (.int 1)) (.blt .len (.cons (.var 0) .nil)) (.cst (.int 5)))) [some (.ref n), none, none] s = .ok (!decide (1 ≤ ts.length ∧ ts.length ≤ 5)) s := by
    simp only [evT, ev, evs, plainT, asB, List.getElem?_cons_zero, R.bind_ok, hlen, Cst.d, cmpD, leD]
    by_cases q : 1 ≤ ts.length
    · rw [decide_eq_true (by omega : (1 : Int) ≤ ts.length), if_pos rfl]
      by_cases q2 : ts.length ≤ 5
      · rw [decide_eq_true (by omega : (ts.length : Int) ≤ 5), decide_eq_true ⟨q, q2⟩]; rfl
      · rw [decide_eq_false (by omega : ¬ (ts.length : Int) ≤ 5), decide_eq_false (fun z => q2 z.2)]; rfl
    · rw [decide_eq_false (by omega : ¬ (1 : Int) ≤ ts.length), if_neg Bool.false_ne_true, decide_eq_false (fun z => q z.1)]; rfl
  by_cases hl : 1 ≤ ts.length ∧ ts.length ≤ 5
  · rw [decide_eq_true hl] at hc
    obtain ⟨m, s1, g1, e1, e2⟩ := names_of (cl := clF Γ j) (τ := [some (.ref n), none, none]) (i := 0) rfl hn hv.1
    have hn1 := g1.at hn
    obtain ⟨τ', _, e3⟩ := loop_names (ok := (Src.lst m ((sortT (ts.map (·.1))).map .str)).ok) (s := s1) (part := "tables") (bad := badT ts) (I := fun τ => ∃ a c, τ = [some (.ref n), a, c]) (P := fun y => y ∈ ts.map (·.1))
      (g := forB (clF Γ j) (.var 1) (.cons (.asg (.loc (.var 2)) (.ix (.var 0) (.var 1))) (.cons (.ite (.or (.not (.call 389 (.cons (.var 1) .nil))) (.or (.not (.call 374 (.cons (.var 2) .nil))) (.not (.cmp2 .le .le (.cst (.int 1)) (.var 2) (.cst (.int 4)))))) (.cons (.rse "InvalidSchema" (.cons (.cst (.str "tables")) (.cons (.var 1) .nil))) .nil) (.nil)) .nil)))
      (lstAt_of e1) (fun y τ hy ⟨a, c, hτ⟩ => by
        subst hτ
        obtain ⟨d, hd, hmem⟩ := getK_mem hy
        obtain ⟨hz, hp⟩ := hv.2 _ hmem
        have w := wid_ok b.toB1 (k := j) (by omega) (s := s1) (τ := [some (.ref n), some (.str y), some d]) rfl rfl (hp.mono g1) hz
        have eb : badT ts y = !(wordB y && widB d) := by simp only [badT, hd]
        refine ⟨[some (.ref n), some (.str y), some d], ⟨_, _, rfl⟩, ?_⟩
        rw [forB_var, eb]
        refine (exs_asg (d := d) (s' := s1) ?_).trans ?_
        · have := ix_dct hn1 (by rw [getK_DK]; exact hd)
          simp only [evE, ev, plainT, List.set_cons_succ, List.set_cons_zero, List.getElem?_cons_zero, List.getElem?_cons_succ, R.bind_ok, this]
        · show exs _ _ [some (.ref n), some (.str y), some d] s1 = _
          cases hq : wordB y && widB d with
          | true =>
            rw [hq] at w
            exact (exs_skip w).trans rfl
          | false =>
            rw [hq] at w
            rw [exs, ite_t w, rse_is b (d := .str y) rfl]
            rfl) _ _ (fun y hy => mem_sortT.mp hy) ⟨none, none, rfl⟩
    refine ⟨s1, g1, ?_⟩
    have hb : exs (clF Γ j) b355 [some (.ref n), none, none] s = lpEnd "tables" τ' s1 ((sortT (ts.map (·.1))).find? (badT ts)) := by
      refine (exs_skip hc).trans ?_
      rw [exs, ex_for e2 (src := .lst m ((sortT (ts.map (·.1))).map .str)) (by simp only [srcOf, lstAt_of e1, Option.map_some])]
      show (forS _ _ ((sortT (ts.map (·.1))).map D.str) _ _).bind _ = _
      rw [e3]
      cases (sortT (ts.map (·.1))).find? (badT ts) <;> rfl
    unfold faultT
    rw [if_pos hl]
    revert hb
    cases (sortT (ts.map (·.1))).find? (badT ts) with
    | none => exact fun hb => call_nx b.h355 rfl rfl hb
    | some y => exact fun hb => call_ex b.h355 rfl rfl hb
  · rw [decide_eq_false hl] at hc
    refine ⟨s, Gro.refl s, ?_⟩
    unfold faultT
    rw [if_neg hl]
    refine call_ex b.h355 rfl rfl (τ' := [some (.ref n), none, none]) ?_
    show exs (clF Γ j) b355 [some (.ref n), none, none] s = _
    unfold b355
    rw [exs, ite_t hc, rse_is b (d := .non) rfl]
    rfl
end SL

set_option Elab.async false
set_option linter.all false
set_option maxRecDepth 100000
set_option autoImplicit false
set_option maxHeartbeats 1000000
/-! SLe: keys and services checked. -/
namespace SL
open PySem L2 G
def keyB (w : Int) : D → Bool
  | .tup ds => colsB (-1) w ds && (decide (1 ≤ ds.length) && decide ((ds.length : Int) < w))
  | _ => false
def badK (ts ks : List (Str × D)) (x : Str) : Bool := !(match getK ts x, getK ks x with
  | some (.int w), some d => keyB w d
  | _, _ => false)
def faultK (ts ks : List (Str × D)) : Option D := ((sortT (ks.map (·.1))).find? (badK ts ks)).map .str
/-- the tables are as they must be -/
def TOk (ts : List (Str × D)) : Prop := ∀ x d, getK ts x = some d → ∃ w, d = .int w
theorem TOk.tb {ts : List (Str × D)} (h : TOk ts) : TbOk (DK ts) := by
  intro k v e
  cases k with
  | inr x => rw [getK_DK] at e; exact h x v e
  | inl i =>
    exfalso
    unfold getK DK at e
    have : (ts.map fun p => ((Sum.inr p.1 : Key), p.2)).find? (fun p => decide (p.1 = Sum.inl i)) = none := by
      rw [List.find?_eq_none]
      intro p hp
      obtain ⟨q, _, rfl⟩ := List.mem_map.mp hp
      simp
    rw [this] at e
    cases e
/-- values whose parts may be looked at -/
def Vals2 (s : S) (ks : List (Str × D)) : Prop := ks.length < 64 ∧ ∀ p ∈ ks, p.1.length ≤ 10000 ∧ SvOk s p.2
theorem SvOk.mono {s s' : S} (h : Gro s s') {d : D} (p : SvOk s d) : SvOk s' d :=
  ⟨p.1.mono h, fun ds e z hz => let ⟨a, b, c⟩ := p.2 ds e z hz; ⟨a.mono h, b, fun es e2 y hy => (c es e2 y hy).mono h⟩⟩
structure B5 (Γ : Ga) : Prop extends B4 Γ where
  h349 : Γ.fns.lookup 349 = some f349
theorem lenT {ds : List D} {s : S} : bltD .len [.tup ds] s = .ok (.int ds.length) s := rfl
theorem check_keys {Γ : Ga} (b : B5 Γ) {k : Nat} (hk : 3 ≤ k) {s : S} {n m : Nat} {ts ks : List (Str × D)} (hn : s[n]? = some (.dct (DK ts))) (hm : s[m]? = some (.dct (DK ks))) (ht : TOk ts) (hv : Vals2 s ks) : ∃ s', Gro s s' ∧ (clF Γ k).call 349 [.ref n, .ref m] s = refuse "keys" s' (faultK ts ks) := by
  obtain ⟨j, rfl, hj⟩ := lv hk
  obtain ⟨l, s1, g1, e1, e2⟩ := names_of (cl := clF Γ j) (τ := [some (.ref n), some (.ref m), none]) (i := 1) rfl hm hv.1
  have hn1 := g1.at hn
  have hm1 := g1.at hm
  obtain ⟨τ', _, e3⟩ := loop_names (ok := (Src.lst l ((sortT (ks.map (·.1))).map .str)).ok) (s := s1) (part := "keys") (bad := badK ts ks) (I := fun τ => ∃ a, τ = [some (.ref n), some (.ref m), a]) (P := fun y => y ∈ ks.map (·.1))
    (g := forB (clF Γ j) (.var 2) (.cons (.ite (.or (.cmp .nin (.var 2) (.var 0)) (.not (.call 371 (.cons (.ix (.var 1) (.var 2)) (.cons (.ix (.var 0) (.var 2)) .nil))))) (.cons (.rse "InvalidSchema" (.cons (.cst (.str "keys")) (.cons (.var 2) .nil))) .nil) (.nil))
      (.cons (.ite (.not (.cmp2 .le .lt (.cst (.int 1)) (.blt .len (.cons (.ix (.var 1) (.var 2)) .nil)) (.ix (.var 0) (.var 2)))) (.cons (.rse "InvalidSchema" (.cons (.cst (.str "keys")) (.cons (.var 2) .nil))) .nil) (.nil)) .nil)))
    (lstAt_of e1) (fun y τ hy ⟨a, hτ⟩ => by
      subst hτ
      obtain ⟨d, hd, hmem⟩ := getK_mem hy
      obtain ⟨hz, hp⟩ := hv.2 _ hmem
      have hp := hp.mono g1
      refine ⟨[some (.ref n), some (.ref m), some (.str y)], ⟨_, rfl⟩, ?_⟩
      rw [forB_var]
      show exs _ _ [some (.ref n), some (.ref m), some (.str y)] s1 = _
      have ik := ix_dct hm1 (x := y) (by rw [getK_DK]; exact hd)
      have nn := nin_dct (x := y) hn1
      rw [getK_DK] at nn
      have stop : ∀ {c : Ex} {cs : Cms}, evT (clF Γ j) c [some (.ref n), some (.ref m), some (.str y)] s1 = .ok true s1 → exs (clF Γ j) (.cons (.ite c (.cons (.rse "InvalidSchema" (.cons (.cst (.str "keys")) (.cons (.var 2) .nil))) .nil) (.nil)) cs) [some (.ref n), some (.ref m), some (.str y)] s1 = lpEnd "keys" [some (.ref n), some (.ref m), some (.str y)] s1 (some y) := fun h => by
        rw [exs, ite_t h, rse_is b.toB4 (d := .str y) rfl]
        rfl
      cases ht' : getK ts y with
      | none =>
        have eb : badK ts ks y = true := by simp only [badK, ht', Bool.not_false]
        rw [eb, if_pos rfl]
        refine stop ?_
        simp only [evT, ev, evs, plainT, asB, List.getElem?_cons_zero, List.getElem?_cons_succ, R.bind_ok, nn, ht', Option.isSome_none, Bool.not_false, if_true]
      | some v =>
        obtain ⟨w, rfl⟩ := ht _ _ ht'
        have it := ix_dct hn1 (x := y) (by rw [getK_DK]; exact ht')
        have ic := is_columns b.toB2 (k := j) hj hp.1 (w := w) (fun ds e z hz => (hp.2 ds e z hz).1)
        have c1 : evT (clF Γ j) (.or (.cmp .nin (.var 2) (.var 0)) (.not (.call 371 (.cons (.ix (.var 1) (.var 2)) (.cons (.ix (.var 0) (.var 2)) .nil))))) [some (.ref n), some (.ref m), some (.str y)] s1 = .ok (!isColsD d w) s1 := by
          simp only [evT, ev, evs, plainT, asB, List.getElem?_cons_zero, List.getElem?_cons_succ, R.bind_ok, nn, ht', Option.isSome_some, Bool.not_true, Bool.false_eq_true, if_false, ik, it, ic, truD]
        have eb : badK ts ks y = !keyB w d := by simp only [badK, ht', hd]
        rw [eb]
        cases hq : isColsD d w with
        | false =>
          have : keyB w d = false := by
            cases d <;> first
              | rfl
              | (simp only [isColsD] at hq; simp only [keyB, hq, Bool.false_and])
          rw [this]
          rw [hq] at c1
          exact stop c1
        | true =>
          rw [hq] at c1
          refine (exs_skip c1).trans ?_
          obtain ⟨ds, rfl, hq3⟩ : ∃ ds, d = .tup ds ∧ colsB (-1) w ds = true := by
            clear hp hmem hd ik ic c1 eb
            cases d <;> first
              | (cases hq; done)
              | exact ⟨_, rfl, hq⟩
          have c2 : evT (clF Γ j) (.not (.cmp2 .le .lt (.cst (.int 1)) (.blt .len (.cons (.ix (.var 1) (.var 2)) .nil)) (.ix (.var 0) (.var 2)))) [some (.ref n), some (.ref m), some (.str y)] s1 = .ok (!(decide (1 ≤ ds.length) && decide ((ds.length : Int) < w))) s1 := by
            simp only [evT, ev, evs, plainT, asB, List.getElem?_cons_zero, List.getElem?_cons_succ, R.bind_ok, ik, it, lenT, Cst.d, cmpD, leD, ltD]
            by_cases q : 1 ≤ ds.length
            · rw [decide_eq_true (by omega : (1 : Int) ≤ ds.length), if_pos rfl, decide_eq_true q]; rfl
            · rw [decide_eq_false (by omega : ¬ (1 : Int) ≤ ds.length), if_neg Bool.false_ne_true, decide_eq_false q]; rfl
          have e : keyB w (.tup ds) = (decide (1 ≤ ds.length) && decide ((ds.length : Int) < w)) := by show (colsB (-1) w ds && _) = _; rw [hq3, Bool.true_and]
          rw [e]
          cases hq2 : decide (1 ≤ ds.length) && decide ((ds.length : Int) < w) with
          | true => rw [hq2] at c2; exact (exs_skip c2).trans rfl
          | false => rw [hq2] at c2; exact stop c2) _ _ (fun y hy => mem_sortT.mp hy) ⟨none, rfl⟩
  refine ⟨s1, g1, ?_⟩
  have hb : exs (clF Γ j) b349 [some (.ref n), some (.ref m), none] s = lpEnd "keys" τ' s1 ((sortT (ks.map (·.1))).find? (badK ts ks)) := by
    unfold b349
    rw [exs, ex_for e2 (src := .lst l ((sortT (ks.map (·.1))).map .str)) (by simp only [srcOf, lstAt_of e1, Option.map_some])]
    show (forS _ _ ((sortT (ks.map (·.1))).map D.str) _ _).bind _ = _
    rw [e3]
    cases (sortT (ks.map (·.1))).find? (badK ts ks) <;> rfl
  unfold faultK
  revert hb
  cases (sortT (ks.map (·.1))).find? (badK ts ks) with
  | none => exact fun hb => call_nx b.h349 rfl rfl hb
  | some y => exact fun hb => call_ex b.h349 rfl rfl hb
def badS (ts ss : List (Str × D)) (x : Str) : Bool := !(wordB x && (match getK ss x with
  | some d => isServD (DK ts) d
  | none => false))
def faultS (ts ss : List (Str × D)) : Option D := if 1 ≤ ss.length ∧ ss.length ≤ 8 then ((sortT (ss.map (·.1))).find? (badS ts ss)).map .str else some .non
structure B6 (Γ : Ga) : Prop extends B5 Γ where
  h354 : Γ.fns.lookup 354 = some f354
theorem check_services {Γ : Ga} (b : B6 Γ) {k : Nat} (hk : 4 ≤ k) {s : S} {n m : Nat} {ts ss : List (Str × D)} (hn : s[n]? = some (.dct (DK ts))) (hm : s[m]? = some (.dct (DK ss))) (ht : TOk ts) (hv : Vals2 s ss) : ∃ s', Gro s s' ∧ (clF Γ k).call 354 [.ref n, .ref m] s = refuse "services" s' (faultS ts ss) := by
  obtain ⟨j, rfl, hj⟩ := lv hk
  have hlen : bltD .len [.ref m] s = .ok (.int ss.length) s := by rw [len_dct hm]; simp [DK]
  have hc : evT (clF Γ j) (.not (.cmp2 .le .le (.cst (.int 1)) (.blt .len (.cons (.var 1) .nil)) (.cst (.int 8)))) [some (.ref n), some (.ref m), none] s = .ok (!decide (1 ≤ ss.length ∧ ss.length ≤ 8)) s := by
    simp only [evT, ev, evs, plainT, asB, List.getElem?_cons_zero, List.getElem?_cons_succ, R.bind_ok, hlen, Cst.d, cmpD, leD]
    by_cases q : 1 ≤ ss.length
    · rw [decide_eq_true (by omega : (1 : Int) ≤ ss.length), if_pos rfl]
      by_cases q2 : ss.length ≤ 8
      · rw [decide_eq_true (by omega : (ss.length : Int) ≤ 8), decide_eq_true ⟨q, q2⟩]; rfl
      · rw [decide_eq_false (by omega : ¬ (ss.length : Int) ≤ 8), decide_eq_false (fun z => q2 z.2)]; rfl
    · rw [decide_eq_false (by omega : ¬ (1 : Int) ≤ ss.length), if_neg Bool.false_ne_true, decide_eq_false (fun z => q z.1)]; rfl
  by_cases hl : 1 ≤ ss.length ∧ ss.length ≤ 8
  · rw [decide_eq_true hl] at hc
    obtain ⟨l, s1, g1, e1, e2⟩ := names_of (cl := clF Γ j) (τ := [some (.ref n), some (.ref m), none]) (i := 1) rfl hm hv.1
    have hn1 := g1.at hn
    have hm1 := g1.at hm
    obtain ⟨τ', _, e3⟩ := loop_names (ok := (Src.lst l ((sortT (ss.map (·.1))).map .str)).ok) (s := s1) (part := "services") (bad := badS ts ss) (I := fun τ => ∃ a, τ = [some (.ref n), some (.ref m), a]) (P := fun y => y ∈ ss.map (·.1))
      (g := forB (clF Γ j) (.var 2) (.cons (.ite (.or (.not (.call 389 (.cons (.var 2) .nil))) (.not (.call 381 (.cons (.var 0) (.cons (.ix (.var 1) (.var 2)) .nil))))) (.cons (.rse "InvalidSchema" (.cons (.cst (.str "services")) (.cons (.var 2) .nil))) .nil) (.nil)) .nil))
      (lstAt_of e1) (fun y τ hy ⟨a, hτ⟩ => by
        subst hτ
        obtain ⟨d, hd, hmem⟩ := getK_mem hy
        obtain ⟨hz, hp⟩ := hv.2 _ hmem
        have hp := hp.mono g1
        refine ⟨[some (.ref n), some (.ref m), some (.str y)], ⟨_, rfl⟩, ?_⟩
        rw [forB_var]
        show exs _ _ [some (.ref n), some (.ref m), some (.str y)] s1 = _
        have ik := ix_dct hm1 (x := y) (by rw [getK_DK]; exact hd)
        have w1 := is_word b.toB1 (k := j) (by omega) (s := s1) (d := .str y) trivial (fun z e => by cases e; exact hz)
        have v1 := is_service b.toB3 (k := j) hj hn1 ht.tb hp
        have c1 : evT (clF Γ j) (.or (.not (.call 389 (.cons (.var 2) .nil))) (.not (.call 381 (.cons (.var 0) (.cons (.ix (.var 1) (.var 2)) .nil))))) [some (.ref n), some (.ref m), some (.str y)] s1 = .ok (badS ts ss y) s1 := by
          have eb : badS ts ss y = !(wordB y && isServD (DK ts) d) := by simp only [badS, hd]
          rw [eb]
          simp only [evT, ev, evs, plainT, asB, List.getElem?_cons_zero, List.getElem?_cons_succ, R.bind_ok, w1, truD, isWordD]
          cases wordB y with
          | false => rfl
          | true => simp only [Bool.not_true, Bool.false_eq_true, if_false, ik, R.bind_ok, v1, truD, Bool.true_and]
        cases hq : badS ts ss y with
        | true =>
          rw [hq] at c1
          rw [if_pos rfl, exs, ite_t c1, rse_is b.toB4 (d := .str y) rfl]
          rfl
        | false =>
          rw [hq] at c1
          exact (exs_skip c1).trans rfl) _ _ (fun y hy => mem_sortT.mp hy) ⟨none, rfl⟩
    refine ⟨s1, g1, ?_⟩
    have hb : exs (clF Γ j) b354 [some (.ref n), some (.ref m), none] s = lpEnd "services" τ' s1 ((sortT (ss.map (·.1))).find? (badS ts ss)) := by
      refine (exs_skip hc).trans ?_
      rw [exs, ex_for e2 (src := .lst l ((sortT (ss.map (·.1))).map .str)) (by simp only [srcOf, lstAt_of e1, Option.map_some])]
      show (forS _ _ ((sortT (ss.map (·.1))).map D.str) _ _).bind _ = _
      rw [e3]
      cases (sortT (ss.map (·.1))).find? (badS ts ss) <;> rfl
    unfold faultS
    rw [if_pos hl]
    revert hb
    cases (sortT (ss.map (·.1))).find? (badS ts ss) with
    | none => exact fun hb => call_nx b.h354 rfl rfl hb
    | some y => exact fun hb => call_ex b.h354 rfl rfl hb
  · rw [decide_eq_false hl] at hc
    refine ⟨s, Gro.refl s, ?_⟩
    unfold faultS
    rw [if_neg hl]
    refine call_ex b.h354 rfl rfl (τ' := [some (.ref n), some (.ref m), none]) ?_
    show exs (clF Γ j) b354 [some (.ref n), some (.ref m), none] s = _
    unfold b354
    rw [exs, ite_t hc, rse_is b.toB4 (d := .non) rfl]
    rfl
end SL

set_option Elab.async false
set_option linter.all false
set_option maxRecDepth 100000
set_option autoImplicit false
set_option maxHeartbeats 1000000
/-! SLf: whole answers, the making of a schema. -/
namespace SL
open PySem L2 G
theorem colsB_int {w : Int} : ∀ {ds : List D} {l : Int}, colsB l w ds = true → ∀ z ∈ ds, ∃ c, z = .int c
  | [], _, _, _, h => nomatch h
  | d :: ds, l, h, z, hz => by
    cases d <;> first
      | (cases h; done)
      | (rename_i c
         simp only [colsB, Bool.and_eq_true] at h
         rcases List.mem_cons.mp hz with e | e
         · exact ⟨_, e⟩
         · exact colsB_int h.2 z e)
/-- a told service that answers all rows of its table -/
def wholeB (ts ks : List (Str × D)) : D → Bool
  | .tup [.str t, .tup g, c] => c.isNon || (match getK ts t with
     | some (.int w) => (g.length : Int) == w
     | _ => false) || (match getK ks t with
     | some (.tup cs) => cs.all fun z => g.any fun y => eqF y z
     | _ => false)
  | _ => false
theorem col_loop {cl : CL} {a b c t e : D} {s : S} {g : List D} (hg : ∀ z ∈ g, flatD z = true) : ∀ (ds : List D) (ok : S → Prop) (_ : ∀ s, ok s) (x : Option D), (∀ z ∈ ds, flatD z = true) →
    (forS ok (forB cl (.var 3) (.cons (.ite (.cmp .nin (.var 3) (.var 5)) (.cons (.ret (.cst (.bl false))) .nil) (.nil)) .nil)) ds [some a, some b, some c, x, some t, some (.tup g), some e] s).bind (fun τ s => exs cl (.cons (.ret (.cst (.bl true))) .nil) τ s) = .rt (.bl (ds.all fun z => g.any fun y => eqF y z)) s := by
  intro ds ok hok
  induction ds with
  | nil => intro x _; rw [forS_nil (hok s), SR.bind_nx]; rfl
  | cons d ds ih =>
    intro x hd
    have hin : cmpD .nin d (.tup g) s = .ok (!(g.any fun y => eqF y d)) s := by
      have h1 := hd d (by simp)
      have h2 : g.all flatD = true := List.all_eq_true.mpr hg
      have : inD d (.tup g) s = .ok (g.any fun y => eqF y d) s := by
        cases d <;> first
          | (exact if_pos ⟨h1, h2⟩)
          | (simp only [inD]; exact if_pos ⟨h1, h2⟩)
      show (inD d (.tup g) s).bind _ = _
      rw [this]; rfl
    have hc : evT cl (.cmp .nin (.var 3) (.var 5)) [some a, some b, some c, some d, some t, some (.tup g), some e] s = .ok (!(g.any fun y => eqF y d)) s := by
      simp only [evT, ev, plainT, asB, List.getElem?_cons_zero, List.getElem?_cons_succ, R.bind_ok, hin]
    rw [List.all_cons]
    cases hq : g.any fun y => eqF y d with
    | true =>
      rw [hq] at hc
      rw [forS_nx (hok s) (τ' := [some a, some b, some c, some d, some t, some (.tup g), some e]) (s' := s), ih _ fun z hz => hd z (by simp [hz]), Bool.true_and]
      rw [forB_var]
      exact exs_skip hc
    | false =>
      rw [hq] at hc
      rw [forS_rt (hok s) (x := .bl false) (s' := s), SR.bind_rt, Bool.false_and]
      rw [forB_var]
      exact exs_in hc rfl
structure B7 (Γ : Ga) : Prop extends B6 Γ where
  h429 : Γ.fns.lookup 429 = some f429
/-- keys that check_keys has passed -/
def KOk (ts ks : List (Str × D)) : Prop := ∀ x d, getK ks x = some d → ∃ w, getK ts x = some (.int w) ∧ keyB w d = true
theorem returns_all {Γ : Ga} (b : B7 Γ) {k : Nat} (hk : 1 ≤ k) {s : S} {n m : Nat} {ts ks : List (Str × D)} {d : D} (hn : s[n]? = some (.dct (DK ts))) (hm : s[m]? = some (.dct (DK ks))) (ht : KOk ts ks) (hd : isServD (DK ts) d = true) :
    (clF Γ k).call 429 [.ref n, .ref m, d] s = .ok (.bl (wholeB ts ks d)) s := by
  obtain ⟨j, rfl, hj⟩ := lv hk
  obtain ⟨t, g, c, w, rfl, h1, h2, h3⟩ : ∃ t g c w, d = .tup [.str t, .tup g, c] ∧ getK ts t = some (.int w) ∧ colsB (-1) w g = true ∧ isCapD c = true := by
    unfold isServD at hd
    split at hd
    · rename_i t g c
      rw [getK_DK] at hd
      split at hd
      · rename_i w hw
        simp only [Bool.and_eq_true] at hd
        cases g <;> first
          | (have q := hd.2.1; cases q; done)
          | exact ⟨t, _, c, w, rfl, hw, hd.2.1, hd.2.2⟩
      · simp at hd
    · cases hd
  refine call_rt b.h429 (τ := [some (.ref n), some (.ref m), some (.tup [.str t, .tup g, c]), none, none, none, none]) rfl rfl ?_
  refine (exs_nx (τ' := [some (.ref n), some (.ref m), some (.tup [.str t, .tup g, c]), none, some (.str t), some (.tup g), some c]) (s' := s) rfl).trans ?_
  have it := ix_dct hn (x := t) (by rw [getK_DK]; exact h1)
  have nn := nin_dct (x := t) hm
  rw [getK_DK] at nn
  have e1 : cmpD .isn c .non s = .ok c.isNon s := rfl
  have hc : evT (clF Γ j) (.or (.cmp .isn (.var 6) (.cst .non)) (.cmp .eq (.blt .len (.cons (.var 5) .nil)) (.ix (.var 0) (.var 4)))) [some (.ref n), some (.ref m), some (.tup [.str t, .tup g, c]), none, some (.str t), some (.tup g), some c] s = .ok (c.isNon || (g.length : Int) == w) s := by
    simp only [evT, ev, evs, plainT, asB, List.getElem?_cons_zero, List.getElem?_cons_succ, R.bind_ok, Cst.d, e1, lenT, it, eqI]
    cases c.isNon <;> rfl
  simp only [wholeB, h1]
  cases hq : c.isNon || (g.length : Int) == w with
  | true =>
    rw [hq] at hc
    rw [Bool.true_or]
    exact exs_in hc rfl
  | false =>
    rw [hq] at hc
    rw [Bool.false_or]
    refine (exs_skip hc).trans ?_
    cases hk' : getK ks t with
    | none =>
      refine exs_in (s' := s) ?_ rfl
      simp only [evT, ev, plainT, asB, List.getElem?_cons_zero, List.getElem?_cons_succ, R.bind_ok, nn, hk', Option.isSome_none, Bool.not_false]
    | some d =>
      obtain ⟨w2, h4, h5⟩ := ht _ _ hk'
      obtain ⟨cs, rfl, h6⟩ : ∃ cs, d = .tup cs ∧ colsB (-1) w2 cs = true := by
        cases d <;> first
          | (cases h5; done)
          | (simp only [keyB, Bool.and_eq_true] at h5
             exact ⟨_, rfl, h5.1⟩)
      have ik := ix_dct hm (x := t) (by rw [getK_DK]; exact hk')
      refine (exs_skip (s' := s) ?_).trans ?_
      · simp only [evT, ev, plainT, asB, List.getElem?_cons_zero, List.getElem?_cons_succ, R.bind_ok, nn, hk', Option.isSome_some, Bool.not_true]
      · rw [exs, ex_for (its := .cons (.ix (.var 1) (.var 4)) .nil) (ds := [.tup cs]) (s1 := s) (src := .vals cs) (by simp only [evs, ev, plainT, List.getElem?_cons_zero, List.getElem?_cons_succ, R.bind_ok, ik]) rfl]
        have f1 : ∀ z ∈ g, flatD z = true := fun z hz => by obtain ⟨i, rfl⟩ := colsB_int h2 z hz; rfl
        have f2 : ∀ z ∈ cs, flatD z = true := fun z hz => by obtain ⟨i, rfl⟩ := colsB_int h6 z hz; rfl
        exact col_loop f1 cs _ (fun _ => trivial) none f2
end SL
namespace SL
open PySem L2 G
/-- a dict in the order of its names -/
def srt (ts : List (Str × D)) : List (Str × D) := (sortT (ts.map (·.1))).map fun x => (x, (getK ts x).getD .non)
theorem setK_new {ts : List (Str × D)} {x : Str} {d : D} (h : x ∉ ts.map (·.1)) : setK (DK ts) (.inr x) d = DK (ts ++ [(x, d)]) := by
  unfold setK
  rw [if_neg]
  · simp [DK]
  · simp only [List.any_eq_true, decide_eq_true_eq, not_exists, not_and]
    intro p hp e
    unfold DK at hp
    obtain ⟨q, hq, rfl⟩ := List.mem_map.mp hp
    injection e with e
    exact h (List.mem_map.mpr ⟨q, hq, e⟩)
theorem dcS_names {ok : S → Prop} {g : D → S → R (Key × D)} {s : S} {f : Str → D} (hok : ok s) : ∀ (ys : List Str) (acc : List (Str × D)), (∀ y ∈ ys, g (.str y) s = .ok (.inr y, f y) s) → ys.Nodup → (∀ y ∈ ys, y ∉ acc.map (·.1)) →
    dcS ok g (ys.map .str) s (DK acc) = .ok (DK (acc ++ ys.map fun y => (y, f y))) s
  | [], acc, _, _, _ => by simp [dcS, hok]
  | y :: ys, acc, h, hn, ha => by
    rw [List.map_cons]
    unfold dcS
    rw [if_pos hok, h y (by simp), R.bind_ok, setK_new (ha y (by simp))]
    have hn := List.nodup_cons.mp hn
    rw [dcS_names hok ys _ (fun z hz => h z (by simp [hz])) hn.2 (fun z hz => ?_)]
    · simp
    · intro q
      rw [List.map_append, List.mem_append] at q
      rcases q with q | q
      · exact ha z (by simp [hz]) q
      · simp at q
        exact hn.1 (q ▸ hz)
end SL
namespace SL
open PySem L2 G
theorem sortT_nodup {ys : List Str} (h : ys.Nodup) : (sortT ys).Nodup := (List.mergeSort_perm ys leT).nodup_iff.mpr h
theorem sortT_len {ys : List Str} : (sortT ys).length = ys.length := (List.mergeSort_perm ys leT).length_eq
/-- {x: d[x] for x in sorted(list(d))} -/
theorem dc_names {cl : CL} {τ : Fr} {s : S} {i n v : Nat} {own : Str} {ts : List (Str × D)} (hi : τ[i]? = some (some (.ref n))) (hv : v < τ.length) (hvi : v ≠ i) (h : s[n]? = some (.dct (DK ts))) (hl : ts.length < 64) (hn : (ts.map (·.1)).Nodup) :
    ∃ m s', Gro s s' ∧ s.length ≤ m ∧ s'[m]? = some (.dct (DK (srt ts))) ∧ (ev cl (.dc (.var v) (.ix (.var i) (.var v)) (.var v) .seq (.cons (.blt .sorted (.cons (.blt .list (.cons (.var i) .nil)) .nil)) .nil) [(own, v)])).1 τ s = .ok (.ref m) s' := by
  obtain ⟨l, s1, g1, e1, e2⟩ := names_of (cl := cl) hi h hl
  have h1 := g1.at h
  refine ⟨s1.length, s1 ++ [.dct (DK (srt ts))], g1.trans (Gro.new _ _), by obtain ⟨l, rfl⟩ := g1; simp, new_at, ?_⟩
  have hs : srcOf .seq [.ref l] s1 = some (.lst l ((sortT (ts.map (·.1))).map .str)) := by simp only [srcOf, lstAt_of e1, Option.map_some]
  simp only [ev, plainT, e2, R.bind_ok, hs]
  rw [if_pos (by
    show ((sortT (ts.map (·.1))).map D.str).length < sizeLine
    rw [List.length_map, sortT_len, List.length_map]
    exact Nat.lt_trans hl (by decide))]
  have hok : (Src.lst l ((sortT (ts.map (·.1))).map .str)).ok s1 := lstAt_of e1
  have key := dcS_names (g := fun d s => match asgV (.var v) d s (wipeF τ ([(own, v)].map (·.2))) with
        | none => .bad
        | some τ' => (((ev cl (.var v)).1 τ' s).calm).bind fun y s => (((ev cl (.ix (.var i) (.var v))).1 τ' s).calm).bind fun z s => match keyD y with
          | some k => .ok (k, z) s
          | none => .bad) (f := fun x => (getK ts x).getD .non) hok (sortT (ts.map (·.1))) [] (fun y hy => by
      obtain ⟨d, hd, _⟩ := getK_mem (mem_sortT.mp hy)
      have ik := ix_dct h1 (x := y) (by rw [getK_DK]; exact hd)
      have a1 : ((τ.set v none).set v (some (.str y)))[v]? = some (some (.str y)) := by simp [hv]
      have a2 : ((τ.set v none).set v (some (.str y)))[i]? = some (some (.ref n)) := by
        rw [List.getElem?_set_ne (by omega), List.getElem?_set_ne (by omega), hi]
      simp only [asgV, wipeF, List.map_cons, List.map_nil, ev, plainT, a1, a2, R.bind_ok, R.calm_ok, ik, keyD, hd, Option.getD_some]) (sortT_nodup hn) (by simp)
  have e0 : DK [] = [] := rfl
  rw [e0] at key
  exact (congrArg (fun r : R (List (Key × D)) => r.bind fun r s => new (.dct r) s) key).trans rfl
end SL
namespace SL
open PySem L2 G
theorem set_dct {s : S} {n : Nat} {ws : List (Str × D)} {x : Str} {d : D} (h : s[n]? = some (.dct (DK ws))) (hl : ws.length < 64) (hx : x ∉ ws.map (·.1)) : setD (.ref n) (.str x) d s = some (s.set n (.dct (DK (ws ++ [(x, d)])))) := by
  simp only [setD, h, keyD, setK_new hx]
  rw [if_pos]
  unfold DK
  rw [List.length_map]
  exact Nat.lt_trans hl (by decide)
/-- the table of a told service -/
def tabS : D → Str
  | .tup (.str t :: _) => t
  | _ => ""
/-- whole and capped names, in order: the first that is refused, what stands in both tables then -/
def capL (ts ks ss : List (Str × D)) : List Str → List (Str × D) → List (Str × D) → Option Str × List (Str × D) × List (Str × D)
  | [], W, C => (none, W, C)
  | y :: ys, W, C =>
    let d := (getK ss y).getD .non
    if wholeB ts ks d = true then capL ts ks ss ys (W ++ [(y, .bl true)]) C
    else if tabS d ∈ C.map (·.1) then (some y, W ++ [(y, .bl false)], C)
    else capL ts ks ss ys (W ++ [(y, .bl false)]) (C ++ [(tabS d, .str y)])
theorem getK_some {C : List (Str × D)} {x : Str} : (getK C x).isSome = decide (x ∈ C.map (·.1)) := by
  by_cases h : x ∈ C.map (·.1)
  · obtain ⟨d, e, _⟩ := getK_mem h
    rw [e, decide_eq_true h]; rfl
  · rw [decide_eq_false h]
    unfold getK
    cases e : C.find? fun p => decide (p.1 = x) with
    | none => rfl
    | some p =>
      have h1 := List.find?_some e
      have h2 := List.mem_of_find?_eq_some e
      exact absurd (List.mem_map.mpr ⟨p, h2, by simpa using h1⟩) h
theorem serv_tab {ts : List (Key × D)} {d : D} (h : isServD ts d = true) : ∃ g c, d = .tup [.str (tabS d), g, c] := by
  unfold isServD at h
  split at h
  · exact ⟨_, _, rfl⟩
  · cases h
end SL

set_option Elab.async false
set_option linter.all false
set_option maxRecDepth 100000
set_option autoImplicit false
set_option maxHeartbeats 1000000
/-! SLg: the loop over the capped names. -/
namespace SL
open PySem L2 G
def st2 (s : S) (a c : Nat) (W C : List (Str × D)) : S := (s.set a (.dct (DK W))).set c (.dct (DK C))
section
variable {s : S} {a c n : Nat} {W C W' C' : List (Str × D)}
theorem st2_a (h : a < s.length) (hac : a ≠ c) : (st2 s a c W C)[a]? = some (.dct (DK W)) := by
  unfold st2
  rw [List.getElem?_set_ne (by omega)]
  simp [h]
theorem st2_c (h : c < s.length) : (st2 s a c W C)[c]? = some (.dct (DK C)) := by
  unfold st2
  simp [h]
theorem st2_o (h1 : n ≠ a) (h2 : n ≠ c) : (st2 s a c W C)[n]? = s[n]? := by
  unfold st2
  rw [List.getElem?_set_ne (by omega), List.getElem?_set_ne (by omega)]
theorem st2_sa (hac : a ≠ c) : (st2 s a c W C).set a (.dct (DK W')) = st2 s a c W' C := by
  unfold st2
  rw [List.set_comm _ _ (by omega : c ≠ a), List.set_set]
theorem st2_sc : (st2 s a c W C).set c (.dct (DK C')) = st2 s a c W C' := by
  unfold st2
  rw [List.set_set]
end
theorem exs_sub {cl : CL} {τ : Fr} {s s1 s2 s3 s4 : S} {o i e : Ex} {d x y : D} {cs : Cms} (h : evE cl e τ s = .ok d s1) (h1 : evE cl o τ s1 = .ok x s2) (h2 : evE cl i τ s2 = .ok y s3) (h3 : setD x y d s3 = some s4) : exs cl (.cons (.asg (.sub o i) e) cs) τ s = exs cl cs τ s4 := by
  refine exs_nx ?_
  simp only [ex, h, R.toS_ok, store, h1, h2, h3]
def capBody : Cms := .cons (.asg (.loc (.var 7)) (.ix (.var 3) (.var 6)))
    (.cons (.asg (.sub (.var 4) (.var 6)) (.call 429 (.cons (.var 1) (.cons (.var 2) (.cons (.var 7) .nil)))))
    (.cons (.ite (.not (.ix (.var 4) (.var 6))) (.cons (.ite (.cmp .inn (.ix (.var 7) (.cst (.int 0))) (.var 5)) (.cons (.rse "InvalidSchema" (.cons (.cst (.str "capped")) (.cons (.var 6) .nil))) .nil) (.nil))
    (.cons (.asg (.sub (.var 5) (.ix (.var 7) (.cst (.int 0)))) (.var 6)) .nil)) (.nil)) .nil))
theorem cap_loop {Γ : Ga} (b : B7 Γ) {k : Nat} (hk : 1 ≤ k) {s : S} {n m q a c : Nat} {ts ks ss : List (Str × D)} {ok : S → Prop} {z : D} (ha : a < s.length) (hc : c < s.length) (hac : a ≠ c) (hok : ∀ W C, ok (st2 s a c W C))
    (hn : s[n]? = some (.dct (DK ts))) (hm : s[m]? = some (.dct (DK ks))) (hq : s[q]? = some (.dct (DK ss))) (ht : KOk ts ks) (na : n ≠ a) (nc : n ≠ c) (ma : m ≠ a) (mc : m ≠ c) (qa : q ≠ a) (qc : q ≠ c) :
    ∀ (ys : List Str) (W C : List (Str × D)) (x6 x7 : Option D), (∀ y ∈ ys, ∃ d, getK ss y = some d ∧ isServD (DK ts) d = true) → ys.Nodup → (∀ y ∈ ys, y ∉ W.map (·.1)) → W.length + ys.length < 64 → C.length ≤ W.length →
    ∃ x6' x7', forS ok (forB (clF Γ k) (.var 6) capBody) (ys.map .str) [some z, some (.ref n), some (.ref m), some (.ref q), some (.ref a), some (.ref c), x6, x7] (st2 s a c W C)
      = lpEnd "capped" [some z, some (.ref n), some (.ref m), some (.ref q), some (.ref a), some (.ref c), x6', x7'] (st2 s a c (capL ts ks ss ys W C).2.1 (capL ts ks ss ys W C).2.2) (capL ts ks ss ys W C).1
  | [], W, C, x6, x7, _, _, _, _, _ => ⟨x6, x7, by rw [List.map_nil, forS_nil (hok W C)]; rfl⟩
  | y :: ys, W, C, x6, x7, hv, hnd, hw, hl, hcl => by
    obtain ⟨d, hd, hs⟩ := hv y (by simp)
    obtain ⟨r, r2, hr⟩ := serv_tab hs
    have hnd := List.nodup_cons.mp hnd
    rw [List.length_cons] at hl
    have nn : (st2 s a c W C)[n]? = _ := (st2_o na nc).trans hn
    have mm : (st2 s a c W C)[m]? = _ := (st2_o ma mc).trans hm
    have qq : (st2 s a c W C)[q]? = _ := (st2_o qa qc).trans hq
    have ik := ix_dct qq (x := y) (by rw [getK_DK]; exact hd)
    have ra := returns_all b hk nn mm ht hs
    have rec6 : ∀ bb, W.length < 64 ∧ (∀ y' ∈ ys, y' ∉ (W ++ [(y, D.bl bb)]).map (·.1)) := fun bb => ⟨by omega, fun y' hy' e => by
      rw [List.map_append, List.mem_append] at e
      rcases e with e | e
      · exact hw y' (by simp [hy']) e
      · simp at e
        exact hnd.1 (e ▸ hy')⟩
    -- the first two statements
    have p1 : ∀ cs, exs (clF Γ k) (.cons (.asg (.loc (.var 7)) (.ix (.var 3) (.var 6))) (.cons (.asg (.sub (.var 4) (.var 6)) (.call 429 (.cons (.var 1) (.cons (.var 2) (.cons (.var 7) .nil))))) cs)) [some z, some (.ref n), some (.ref m), some (.ref q), some (.ref a), some (.ref c), some (.str y), x7] (st2 s a c W C)
        = exs (clF Γ k) cs [some z, some (.ref n), some (.ref m), some (.ref q), some (.ref a), some (.ref c), some (.str y), some d] (st2 s a c (W ++ [(y, .bl (wholeB ts ks d))]) C) := fun cs => by
      refine (exs_asg (d := d) (s' := st2 s a c W C) ?_).trans ?_
      · simp only [evE, ev, plainT, List.getElem?_cons_zero, List.getElem?_cons_succ, R.bind_ok, ik]
      · refine exs_sub (d := .bl (wholeB ts ks d)) (x := .ref a) (y := .str y) (s1 := st2 s a c W C) (s2 := st2 s a c W C) (s3 := st2 s a c W C) ?_ rfl rfl ?_
        · show (ev _ _).1 [some z, some (.ref n), some (.ref m), some (.ref q), some (.ref a), some (.ref c), some (.str y), some d] _ = _
          simp only [ev, evs, plainT, List.getElem?_cons_zero, List.getElem?_cons_succ, R.bind_ok, ra]
        · rw [set_dct (st2_a ha hac) (rec6 true).1 (hw y (by simp)), st2_sa hac]
    have ia : ∀ bb, ixD (.ref a) (.str y) (st2 s a c (W ++ [(y, .bl bb)]) C) = .ok (.bl bb) (st2 s a c (W ++ [(y, .bl bb)]) C) := fun bb => by
      refine ix_dct (st2_a ha hac) ?_
      rw [getK_DK]
      have : W.find? (fun p => decide (p.1 = y)) = none := by
        rw [List.find?_eq_none]
        intro p hp e
        exact hw y (by simp) (List.mem_map.mpr ⟨p, hp, by simpa using e⟩)
      unfold getK
      rw [List.find?_append, this]
      simp
    have hcond : evT (clF Γ k) (.not (.ix (.var 4) (.var 6))) [some z, some (.ref n), some (.ref m), some (.ref q), some (.ref a), some (.ref c), some (.str y), some d] (st2 s a c (W ++ [(y, .bl (wholeB ts ks d))]) C) = .ok (!wholeB ts ks d) (st2 s a c (W ++ [(y, .bl (wholeB ts ks d))]) C) := by
      simp only [evT, ev, plainT, asB, List.getElem?_cons_zero, List.getElem?_cons_succ, R.bind_ok, ia, truD]
    rw [List.map_cons]
    have hcap : capL ts ks ss (y :: ys) W C = if wholeB ts ks d = true then capL ts ks ss ys (W ++ [(y, .bl true)]) C
      else if tabS d ∈ C.map (·.1) then (some y, W ++ [(y, .bl false)], C)
      else capL ts ks ss ys (W ++ [(y, .bl false)]) (C ++ [(tabS d, .str y)]) := by simp only [capL, hd, Option.getD_some]
    rw [hcap]
    cases hwh : wholeB ts ks d with
    | true =>
      rw [hwh] at p1 hcond
      obtain ⟨x6', x7', e⟩ := cap_loop b hk ha hc hac hok hn hm hq ht na nc ma mc qa qc ys (W ++ [(y, .bl true)]) C (some (.str y)) (some d) (fun y' h => hv y' (by simp [h])) hnd.2 (rec6 true).2 (by simp; omega) (by simp; omega)
      refine ⟨x6', x7', ?_⟩
      rw [if_pos rfl, ← e]
      refine forS_nx (hok W C) ?_
      rw [forB_var]
      exact (p1 _).trans ((exs_skip hcond).trans rfl)
    | false =>
      rw [hwh] at p1 hcond
      rw [if_neg Bool.false_ne_true]
      have it : evE (clF Γ k) (.ix (.var 7) (.cst (.int 0))) [some z, some (.ref n), some (.ref m), some (.ref q), some (.ref a), some (.ref c), some (.str y), some d] (st2 s a c (W ++ [(y, .bl false)]) C) = .ok (.str (tabS d)) (st2 s a c (W ++ [(y, .bl false)]) C) := by
        rw [hr]; rfl
      have hin : evT (clF Γ k) (.cmp .inn (.ix (.var 7) (.cst (.int 0))) (.var 5)) [some z, some (.ref n), some (.ref m), some (.ref q), some (.ref a), some (.ref c), some (.str y), some d] (st2 s a c (W ++ [(y, .bl false)]) C) = .ok (decide (tabS d ∈ C.map (·.1))) (st2 s a c (W ++ [(y, .bl false)]) C) := by
        have it' : (ev (clF Γ k) (.ix (.var 7) (.cst (.int 0)))).1 [some z, some (.ref n), some (.ref m), some (.ref q), some (.ref a), some (.ref c), some (.str y), some d] (st2 s a c (W ++ [(y, .bl false)]) C) = _ := it
        have ii := inn_dct (x := tabS d) (st2_c (s := s) (a := a) (W := W ++ [(y, .bl false)]) (C := C) hc)
        rw [getK_DK, getK_some] at ii
        rw [evT, ev]
        simp only [plainT, asB, it', R.bind_ok]
        simp only [ev, plainT, List.getElem?_cons_zero, List.getElem?_cons_succ, R.bind_ok, ii, truD]
      by_cases hmem : tabS d ∈ C.map (·.1)
      · rw [if_pos hmem]
        rw [decide_eq_true hmem] at hin
        refine ⟨some (.str y), some d, ?_⟩
        refine forS_exc (hok W C) ?_
        rw [forB_var]
        refine (p1 _).trans ?_
        rw [exs, ite_t hcond, exs, ite_t hin, rse_is b.toB4 (d := .str y) rfl]
        rfl
      · rw [if_neg hmem]
        rw [decide_eq_false hmem] at hin
        obtain ⟨x6', x7', e⟩ := cap_loop b hk ha hc hac hok hn hm hq ht na nc ma mc qa qc ys (W ++ [(y, .bl false)]) (C ++ [(tabS d, .str y)]) (some (.str y)) (some d) (fun y' h => hv y' (by simp [h])) hnd.2 (rec6 false).2 (by simp; omega) (by simp; omega)
        refine ⟨x6', x7', ?_⟩
        rw [← e]
        refine forS_nx (hok W C) ?_
        rw [forB_var]
        refine (p1 _).trans (exs_nx ((ite_t hcond).trans ((exs_skip hin).trans ?_)))
        refine (exs_sub (d := .str y) (x := .ref c) (y := .str (tabS d)) rfl rfl it ?_).trans rfl
        rw [set_dct (st2_c hc) (by omega) hmem, st2_sc]
end SL

set_option Elab.async false
set_option linter.all false
set_option maxRecDepth 100000
set_option autoImplicit false
set_option maxHeartbeats 1000000
/-! SLh: what the checks that pass tell. -/
namespace SL
open PySem L2 G
theorem find_none {ys : List Str} {p : Str → Bool} (h : (ys.find? p).map D.str = none) : ∀ y ∈ ys, p y = false := by
  cases e : ys.find? p with
  | none =>
    intro y hy
    have := List.find?_eq_none.mp e y hy
    simpa using this
  | some x => rw [e] at h; cases h
theorem mem_of_getK {ts : List (Str × D)} {x : Str} {d : D} (h : getK ts x = some d) : x ∈ ts.map (·.1) := by
  have := getK_some (C := ts) (x := x)
  rw [h] at this
  simpa using this.symm
theorem tok_of {ts : List (Str × D)} (h : faultT ts = none) : TOk ts := by
  intro x d hd
  unfold faultT at h
  split at h
  · have := find_none h x (mem_sortT.mpr (mem_of_getK hd))
    simp only [badT, hd] at this
    cases d <;> first
      | exact ⟨_, rfl⟩
      | (simp [widB] at this)
  · cases h
theorem kok_of {ts ks : List (Str × D)} (ht : TOk ts) (h : faultK ts ks = none) : KOk ts ks := by
  intro x d hd
  have := find_none h x (mem_sortT.mpr (mem_of_getK hd))
  simp only [badK, hd] at this
  cases e : getK ts x with
  | none => rw [e] at this; simp at this
  | some v =>
    obtain ⟨w, rfl⟩ := ht _ _ e
    rw [e] at this
    exact ⟨w, rfl, by simpa using this⟩
theorem serv_of {ts ss : List (Str × D)} (h : faultS ts ss = none) : ∀ y ∈ sortT (ss.map (·.1)), ∃ d, getK ss y = some d ∧ isServD (DK ts) d = true := by
  intro y hy
  obtain ⟨d, hd, _⟩ := getK_mem (mem_sortT.mp hy)
  refine ⟨d, hd, ?_⟩
  unfold faultS at h
  split at h
  · have := find_none h y hy
    simp only [badS, hd] at this
    simp at this
    exact this.2
  · cases h
end SL

set_option Elab.async false
set_option linter.all false
set_option maxRecDepth 100000
set_option autoImplicit false
set_option maxHeartbeats 1000000
/-! SLi: Schema.__init__. -/
namespace SL
open PySem L2 G
def nm (ts : List (Str × D)) : List Str := sortT (ts.map (·.1))
/-- what a schema is refused for -/
def sfault (ts ks ss : List (Str × D)) : Option (Str × D) := match faultT ts with
  | some d => some ("tables", d)
  | none => match faultK ts ks with
    | some d => some ("keys", d)
    | none => match faultS ts ss with
      | some d => some ("services", d)
      | none => (capL ts ks ss (nm ss) [] []).1.map fun y => ("capped", .str y)
theorem exs_exc {cl : CL} {c : Cm} {cs : Cms} {τ τ' : Fr} {s s' : S} {x : Str} {fs : List (Str × D)} (h : ex cl c τ s = .exc τ' x fs s') : exs cl (.cons c cs) τ s = .exc τ' x fs s' := by simp only [exs, h, SR.bind_exc]
theorem expr_exc {cl : CL} {e : Ex} {cs : Cms} {τ : Fr} {s s' : S} {x : Str} {fs : List (Str × D)} (h : evE cl e τ s = .exc x fs s') : exs cl (.cons (.expr e) cs) τ s = .exc τ x fs s' := by
  refine exs_exc ?_
  simp only [ex, h]
  rfl
theorem Vals.mono {s s' : S} (g : Gro s s') {ts : List (Str × D)} (h : Vals s ts) : Vals s' ts := ⟨h.1, fun p hp => ⟨(h.2 p hp).1, (h.2 p hp).2.mono g⟩⟩
theorem Vals2.mono {s s' : S} (g : Gro s s') {ts : List (Str × D)} (h : Vals2 s ts) : Vals2 s' ts := ⟨h.1, fun p hp => ⟨(h.2 p hp).1, (h.2 p hp).2.mono g⟩⟩
theorem st2_same {s : S} {a c : Nat} (ha : s[a]? = some (.dct (DK []))) (hc : s[c]? = some (.dct (DK []))) : st2 s a c [] [] = s := by
  have h : ∀ {n : Nat} {o : O} {s : S}, s[n]? = some o → s.set n o = s := by
    intro n o s h
    apply List.ext_getElem?
    intro j
    by_cases e : n = j
    · subst e
      obtain ⟨h1, h2⟩ := List.getElem?_eq_some_iff.mp h
      rw [h]
      simp [h1]
    · rw [List.getElem?_set_ne e]
  unfold st2
  rw [h ha, h hc]
end SL
namespace SL
open PySem L2 G
theorem exs_fld {cl : CL} {τ : Fr} {s s1 s2 s3 : S} {o e : Ex} {d x : D} {f : Str} {cs : Cms} (h : evE cl e τ s = .ok d s1) (h1 : evE cl o τ s1 = .ok x s2) (h3 : setA cl x f d s2 = some s3) : exs cl (.cons (.asg (.fld o f) e) cs) τ s = exs cl cs τ s3 := by
  refine exs_nx ?_
  simp only [ex, h, R.toS_ok, store, h1, h3]
/-- all but one object stand as they stood -/
def Grx (i : Nat) (s s' : S) : Prop := ∀ j o, j ≠ i → s[j]? = some o → s'[j]? = some o
theorem Grx.of {i : Nat} {s s' : S} (h : Gro s s') : Grx i s s' := fun _ _ _ e => h.at e
theorem Grx.trans {i : Nat} {a b c : S} (h : Grx i a b) (g : Grx i b c) : Grx i a c := fun j o hj e => g j o hj (h j o hj e)
theorem Grx.set {i : Nat} {s : S} {o : O} : Grx i s (s.set i o) := fun j o' hj e => by rw [List.getElem?_set_ne (by omega)]; exact e
end SL
namespace SL
open PySem L2 G
structure B8 (Γ : Ga) : Prop extends B7 Γ where
  h76 : Γ.fns.lookup 76 = some f76
  hc : ∃ k, Γ.cls.lookup ("Schema" : Str) = some k ∧ k.fields = (["capped_table", "key_table", "service_table", "whole_table", "width_table"] : List Str) ∧ k.init = some 76
theorem B8.set {Γ : Ga} (b : B8 Γ) {k i : Nat} {s : S} {fs : List (Str × D)} {f : Str} {v : D} (h : s[i]? = some (.ins "Schema" fs)) (hf : f = "capped_table" ∨ f = "key_table" ∨ f = "service_table" ∨ f = "whole_table" ∨ f = "width_table") (hl : fs.length < 9) :
    setA (clF Γ k) (.ref i) f v s = some (s.set i (.ins "Schema" (setF f v fs))) := by
  obtain ⟨c, h1, h2, _⟩ := b.hc
  have h1 : (clF Γ k).cls "Schema" = some c := h1
  have h3 : (["capped_table", "key_table", "service_table", "whole_table", "width_table"] : List Str).contains f = true := by
    rcases hf with rfl | rfl | rfl | rfl | rfl <;> decide
  simp only [setA, h, h1]
  rw [if_pos ⟨h2 ▸ h3, by omega⟩]
end SL

set_option Elab.async false
set_option linter.all false
set_option maxRecDepth 100000
set_option autoImplicit false
set_option maxHeartbeats 1000000
/-! SLj: Schema.__init__ joined. -/
namespace SL
open PySem L2 G
/-- the tail of Schema.__init__: five fields -/
def tail76 : Cms := (.cons (.asg (.fld (.var 0) "width_table") (.dc (.var 6) (.ix (.var 1) (.var 6)) (.var 6) .seq (.cons (.blt .sorted (.cons (.blt .list (.cons (.var 1) .nil)) .nil)) .nil) [("name", 6)]))
    (.cons (.asg (.fld (.var 0) "key_table") (.dc (.var 6) (.ix (.var 2) (.var 6)) (.var 6) .seq (.cons (.blt .sorted (.cons (.blt .list (.cons (.var 2) .nil)) .nil)) .nil) [("name", 6)]))
    (.cons (.asg (.fld (.var 0) "service_table") (.dc (.var 6) (.ix (.var 3) (.var 6)) (.var 6) .seq (.cons (.blt .sorted (.cons (.blt .list (.cons (.var 3) .nil)) .nil)) .nil) [("name", 6)]))
    (.cons (.asg (.fld (.var 0) "whole_table") (.var 4))
    (.cons (.asg (.fld (.var 0) "capped_table") (.var 5)) .nil)))))
def init76 (s' : S) (b i : Nat) (ts ks ss W C : List (Str × D)) : Prop := ∃ f1 f2 f3 f4 f5, (b ≤ f1 ∧ b ≤ f2 ∧ b ≤ f3 ∧ b ≤ f4 ∧ b ≤ f5) ∧ s'[i]? = some (.ins "Schema" [("width_table", .ref f1), ("key_table", .ref f2), ("service_table", .ref f3), ("whole_table", .ref f4), ("capped_table", .ref f5)]) ∧
  s'[f1]? = some (.dct (DK (srt ts))) ∧ s'[f2]? = some (.dct (DK (srt ks))) ∧ s'[f3]? = some (.dct (DK (srt ss))) ∧ s'[f4]? = some (.dct (DK W)) ∧ s'[f5]? = some (.dct (DK C))
theorem tail_ok {Γ : Ga} (b : B8 Γ) {k i n m q a c b0 : Nat} {s : S} (hb0 : b0 ≤ s.length) (hba : b0 ≤ a) (hbc : b0 ≤ c) {ts ks ss W C : List (Str × D)} {x6 x7 : Option D} (hi : s[i]? = some (.ins "Schema" []))
    (hn : s[n]? = some (.dct (DK ts))) (hm : s[m]? = some (.dct (DK ks))) (hq : s[q]? = some (.dct (DK ss))) (ha : s[a]? = some (.dct (DK W))) (hc : s[c]? = some (.dct (DK C)))
    (l1 : ts.length < 64) (l2 : ks.length < 64) (l3 : ss.length < 64) (d1 : (ts.map (·.1)).Nodup) (d2 : (ks.map (·.1)).Nodup) (d3 : (ss.map (·.1)).Nodup) :
    ∃ τ' s', Grx i s s' ∧ init76 s' b0 i ts ks ss W C ∧ exs (clF Γ k) tail76 [some (.ref i), some (.ref n), some (.ref m), some (.ref q), some (.ref a), some (.ref c), x6, x7] s = .nx τ' s' := by
  have ne : ∀ {j : Nat} {kvs : List (Key × D)} {s : S} {fs : List (Str × D)}, s[i]? = some (.ins "Schema" fs) → s[j]? = some (.dct kvs) → j ≠ i := by
    intro j kvs s fs h1 h2 e
    subst e
    rw [h1] at h2
    cases h2
  have sti : ∀ {s : S} {fs fs' : List (Str × D)}, s[i]? = some (.ins "Schema" fs) → (s.set i (.ins "Schema" fs'))[i]? = some (.ins "Schema" fs') := by
    intro s fs fs' h
    have := (List.getElem?_eq_some_iff.mp h).1
    simp [this]
  obtain ⟨f1, s1, g1, q1, e1, r1⟩ := dc_names (cl := clF Γ k) (τ := [some (.ref i), some (.ref n), some (.ref m), some (.ref q), some (.ref a), some (.ref c), x6, x7]) (i := 1) (v := 6) (own := "name") rfl (by simp) (by decide) hn l1 d1
  have x1 := Grx.of (i := i) g1
  have i1 := g1.at hi
  have y1 : Grx i s1 (s1.set i (.ins "Schema" [("width_table", .ref f1)])) := Grx.set
  have z1 := x1.trans y1
  obtain ⟨f2, s2, g2, q2, e2, r2⟩ := dc_names (cl := clF Γ k) (τ := [some (.ref i), some (.ref n), some (.ref m), some (.ref q), some (.ref a), some (.ref c), x6, x7]) (i := 2) (v := 6) (own := "name") rfl (by simp) (by decide) (z1 _ _ (ne hi hm) hm) l2 d2
  have i2 := g2.at (sti (fs' := [("width_table", .ref f1)]) i1)
  have y2 : Grx i s2 (s2.set i (.ins "Schema" [("width_table", .ref f1), ("key_table", .ref f2)])) := Grx.set
  have z2 := z1.trans ((Grx.of g2).trans y2)
  obtain ⟨f3, s3, g3, q3, e3, r3⟩ := dc_names (cl := clF Γ k) (τ := [some (.ref i), some (.ref n), some (.ref m), some (.ref q), some (.ref a), some (.ref c), x6, x7]) (i := 3) (v := 6) (own := "name") rfl (by simp) (by decide) (z2 _ _ (ne hi hq) hq) l3 d3
  have i3 := g3.at (sti (fs' := [("width_table", .ref f1), ("key_table", .ref f2)]) i2)
  have x3 := Grx.of (i := i) g3
  have i4 := sti (fs' := [("width_table", .ref f1), ("key_table", .ref f2), ("service_table", .ref f3)]) i3
  have i5 := sti (fs' := [("width_table", .ref f1), ("key_table", .ref f2), ("service_table", .ref f3), ("whole_table", .ref a)]) i4
  have i6 := sti (fs' := [("width_table", .ref f1), ("key_table", .ref f2), ("service_table", .ref f3), ("whole_table", .ref a), ("capped_table", .ref c)]) i5
  have w3 := ((Grx.set (i := i) (s := s3) (o := .ins "Schema" [("width_table", .ref f1), ("key_table", .ref f2), ("service_table", .ref f3)])).trans (Grx.set (i := i) (o := .ins "Schema" [("width_table", .ref f1), ("key_table", .ref f2), ("service_table", .ref f3), ("whole_table", .ref a)]))).trans
    (Grx.set (i := i) (o := .ins "Schema" [("width_table", .ref f1), ("key_table", .ref f2), ("service_table", .ref f3), ("whole_table", .ref a), ("capped_table", .ref c)]))
  have z3 := z2.trans (x3.trans w3)
  have ll : ∀ {s s' : S}, Gro s s' → s.length ≤ s'.length := fun ⟨l, h⟩ => by rw [h]; simp
  have lg1 := ll g1
  have lg2 := ll g2
  rw [List.length_set] at lg2 q2 q3
  refine ⟨[some (.ref i), some (.ref n), some (.ref m), some (.ref q), some (.ref a), some (.ref c), x6, x7], _, z3, ⟨f1, f2, f3, a, c, ⟨by omega, by omega, by omega, hba, hbc⟩, i6, ?_, ?_, ?_, z3 _ _ (ne hi ha) ha, z3 _ _ (ne hi hc) hc⟩, ?_⟩
  · exact (y1.trans ((Grx.of g2).trans (y2.trans (x3.trans w3)))) _ _ (ne i1 e1) e1
  · exact (y2.trans (x3.trans w3)) _ _ (ne i2 e2) e2
  · exact w3 _ _ (ne i3 e3) e3
  · unfold tail76
    refine (exs_fld r1 rfl (b.set i1 (by simp) (by simp))).trans ?_
    refine (exs_fld r2 rfl (b.set i2 (by simp) (by simp))).trans ?_
    refine (exs_fld r3 rfl (b.set i3 (by simp) (by simp))).trans ?_
    refine (exs_fld (d := .ref a) rfl rfl (b.set i4 (by simp) (by simp))).trans ?_
    exact (exs_fld (d := .ref c) rfl rfl (b.set i5 (by simp) (by simp))).trans rfl
end SL

set_option Elab.async false
set_option linter.all false
set_option maxRecDepth 100000
set_option autoImplicit false
set_option maxHeartbeats 1000000
/-! SLk: Schema.__init__ whole. -/
namespace SL
open PySem L2 G
theorem glen {s s' : S} (h : Gro s s') : s.length ≤ s'.length := by
  obtain ⟨l, rfl⟩ := h
  simp
theorem st2_len {s : S} {a c : Nat} {W C : List (Str × D)} : (st2 s a c W C).length = s.length := by simp [st2]
theorem schema_init {Γ : Ga} (b : B8 Γ) {k : Nat} (hk : 5 ≤ k) {i n m q : Nat} {s : S} {ts ks ss : List (Str × D)} (hi : s[i]? = some (.ins "Schema" []))
    (hn : s[n]? = some (.dct (DK ts))) (hm : s[m]? = some (.dct (DK ks))) (hq : s[q]? = some (.dct (DK ss)))
    (vt : Vals s ts) (vk : Vals2 s ks) (vs : Vals2 s ss) (d1 : (ts.map (·.1)).Nodup) (d2 : (ks.map (·.1)).Nodup) (d3 : (ss.map (·.1)).Nodup) :
    ∃ s', Grx i s s' ∧ (match sfault ts ks ss with
      | some p => (clF Γ k).call 76 [.ref i, .ref n, .ref m, .ref q] s = .exc "InvalidSchema" [("name", p.2), ("part", .str p.1)] s'
      | none => (clF Γ k).call 76 [.ref i, .ref n, .ref m, .ref q] s = .ok .non s' ∧ init76 s' s.length i ts ks ss (capL ts ks ss (nm ss) [] []).2.1 (capL ts ks ss (nm ss) [] []).2.2) := by
  obtain ⟨j, rfl, hj⟩ := lv hk
  obtain ⟨s1, g1, e1⟩ := check_tables b.toB4 (k := j) (by omega) hn vt
  have arg1 : ∀ (f : Nat) (s s' : S) (r : R D), (clF Γ j).call f [.ref n] s = r → evE (clF Γ j) (.call f (.cons (.var 1) .nil)) [some (.ref i), some (.ref n), some (.ref m), some (.ref q), none, none, none, none] s = r := fun f s s' r h => by
    simp only [evE, ev, evs, plainT, List.getElem?_cons_zero, List.getElem?_cons_succ, R.bind_ok, h]
  unfold sfault
  cases f1 : faultT ts with
  | some d =>
    rw [f1] at e1
    refine ⟨s1, Grx.of g1, ?_⟩
    exact call_ex b.h76 rfl rfl (expr_exc (arg1 _ _ s1 _ e1))
  | none =>
    rw [f1] at e1
    have t1 := fun cs => exs_expr (cs := cs) (cl := clF Γ j) (τ := [some (.ref i), some (.ref n), some (.ref m), some (.ref q), none, none, none, none]) (arg1 _ _ s1 _ e1)
    have tok := tok_of f1
    have hi1 := g1.at hi
    have hn1 := g1.at hn
    have hm1 := g1.at hm
    have hq1 := g1.at hq
    obtain ⟨s2, g2, e2⟩ := check_keys b.toB5 (k := j) (by omega) hn1 hm1 tok (vk.mono g1)
    have arg2 : ∀ (s' : S) (r : R D), (clF Γ j).call 349 [.ref n, .ref m] s1 = r → evE (clF Γ j) (.call 349 (.cons (.var 1) (.cons (.var 2) .nil))) [some (.ref i), some (.ref n), some (.ref m), some (.ref q), none, none, none, none] s1 = r := fun s' r h => by
      simp only [evE, ev, evs, plainT, List.getElem?_cons_zero, List.getElem?_cons_succ, R.bind_ok, h]
    cases f2 : faultK ts ks with
    | some d =>
      rw [f2] at e2
      refine ⟨s2, Grx.of (g1.trans g2), ?_⟩
      exact call_ex b.h76 rfl rfl ((t1 _).trans (expr_exc (arg2 s2 _ e2)))
    | none =>
      rw [f2] at e2
      have t2 := fun cs => exs_expr (cs := cs) (cl := clF Γ j) (τ := [some (.ref i), some (.ref n), some (.ref m), some (.ref q), none, none, none, none]) (arg2 s2 _ e2)
      have kok := kok_of tok f2
      obtain ⟨s3, g3, e3⟩ := check_services b.toB6 (k := j) (by omega) (g2.at hn1) (g2.at hq1) tok (vs.mono (g1.trans g2))
      have arg3 : ∀ (s' : S) (r : R D), (clF Γ j).call 354 [.ref n, .ref q] s2 = r → evE (clF Γ j) (.call 354 (.cons (.var 1) (.cons (.var 3) .nil))) [some (.ref i), some (.ref n), some (.ref m), some (.ref q), none, none, none, none] s2 = r := fun s' r h => by
        simp only [evE, ev, evs, plainT, List.getElem?_cons_zero, List.getElem?_cons_succ, R.bind_ok, h]
      cases f3 : faultS ts ss with
      | some d =>
        rw [f3] at e3
        refine ⟨s3, Grx.of ((g1.trans g2).trans g3), ?_⟩
        exact call_ex b.h76 rfl rfl ((t1 _).trans ((t2 _).trans (expr_exc (arg3 s3 _ e3))))
      | none =>
        rw [f3] at e3
        have t3 := fun cs => exs_expr (cs := cs) (cl := clF Γ j) (τ := [some (.ref i), some (.ref n), some (.ref m), some (.ref q), none, none, none, none]) (arg3 s3 _ e3)
        have g4 := Gro.new s3 (.dct (DK []))
        have g5 := Gro.new (s3 ++ [.dct (DK [])]) (.dct (DK []))
        have G5 := (((g1.trans g2).trans g3).trans g4).trans g5
        have q5 := G5.at hq
        obtain ⟨l, s6, g6, e6, r6⟩ := names_of (cl := clF Γ j) (τ := [some (.ref i), some (.ref n), some (.ref m), some (.ref q), some (.ref s3.length), some (.ref (s3 ++ [O.dct (DK [])]).length), none, none]) (i := 3) rfl q5 vs.1
        have a6 : s6[s3.length]? = some (.dct (DK [])) := g6.at (g5.at new_at)
        have c6 : s6[(s3 ++ [O.dct (DK [])]).length]? = some (.dct (DK [])) := g6.at new_at
        have same := st2_same a6 c6
        have lens : s3.length < s6.length := (List.getElem?_eq_some_iff.mp a6).1
        have lenc : (s3 ++ [O.dct (DK [])]).length < s6.length := (List.getElem?_eq_some_iff.mp c6).1
        have hac : s3.length ≠ (s3 ++ [O.dct (DK [])]).length := by simp
        have lt : ∀ {x : Nat} {o : O}, s3[x]? = some o → x ≠ s3.length ∧ x ≠ (s3 ++ [O.dct (DK [])]).length := fun h => by
          have := (List.getElem?_eq_some_iff.mp h).1
          simp
          omega
        have G3 := (g1.trans g2).trans g3
        have ln := lt (G3.at hn)
        have lm := lt (G3.at hm)
        have lq := lt (G3.at hq)
        have li := lt (G3.at hi)
        have la : l ≠ s3.length := fun e => by rw [e, a6] at e6; cases e6
        have lc : l ≠ (s3 ++ [O.dct (DK [])]).length := fun e => by rw [e, c6] at e6; cases e6
        have lp := cap_loop b.toB7 (k := j) (by omega) (s := s6) (z := .ref i) (ok := (Src.lst l ((nm ss).map .str)).ok) lens lenc hac (fun W C => lstAt_of ((st2_o la lc).trans e6))
          (g6.at (G5.at hn)) (g6.at (G5.at hm)) (g6.at q5) kok ln.1 ln.2 lm.1 lm.2 lq.1 lq.2 (nm ss) [] [] none none (serv_of f3) (sortT_nodup d3) (by simp) (by
            show 0 + (sortT (ss.map (·.1))).length < 64
            rw [sortT_len, List.length_map, Nat.zero_add]
            exact vs.1) (by simp)
        obtain ⟨x6, x7, lp⟩ := lp
        rw [same] at lp
        have bd : exs (clF Γ j) b76 [some (.ref i), some (.ref n), some (.ref m), some (.ref q), none, none, none, none] s = (lpEnd "capped" [some (.ref i), some (.ref n), some (.ref m), some (.ref q), some (.ref s3.length), some (.ref (s3 ++ [O.dct (DK [])]).length), x6, x7] (st2 s6 s3.length (s3 ++ [O.dct (DK [])]).length (capL ts ks ss (nm ss) [] []).2.1 (capL ts ks ss (nm ss) [] []).2.2) (capL ts ks ss (nm ss) [] []).1).bind fun τ s => exs (clF Γ j) tail76 τ s := by
          unfold b76
          refine (t1 _).trans ((t2 _).trans ((t3 _).trans ?_))
          refine (exs_asg (d := .ref s3.length) (s' := s3 ++ [.dct (DK [])]) rfl).trans ?_
          refine (exs_asg (d := .ref (s3 ++ [O.dct (DK [])]).length) (s' := (s3 ++ [.dct (DK [])]) ++ [.dct (DK [])]) rfl).trans ?_
          rw [exs]
          refine (congrArg (fun r : SR => r.bind fun τ s => exs (clF Γ j) tail76 τ s) (ex_for (t := .var 6) (k := .seq) (body := capBody) r6 (src := .lst l ((nm ss).map .str)) (by simp only [srcOf, lstAt_of e6, Option.map_some]; rfl))).trans ?_
          exact congrArg (fun r : SR => r.bind fun τ s => exs (clF Γ j) tail76 τ s) lp
        have GX : Grx i s (st2 s6 s3.length (s3 ++ [O.dct (DK [])]).length (capL ts ks ss (nm ss) [] []).2.1 (capL ts ks ss (nm ss) [] []).2.2) := fun j o hj e => by
          obtain ⟨p1, p2⟩ := lt (G3.at e)
          rw [st2_o p1 p2]
          exact g6.at (G5.at e)
        have keep : ∀ {x : Nat} {o : O}, s[x]? = some o → (st2 s6 s3.length (s3 ++ [O.dct (DK [])]).length (capL ts ks ss (nm ss) [] []).2.1 (capL ts ks ss (nm ss) [] []).2.2)[x]? = some o := fun e => by
          obtain ⟨p1, p2⟩ := lt (G3.at e)
          rw [st2_o p1 p2]
          exact g6.at (G5.at e)
        revert bd
        cases hr : (capL ts ks ss (nm ss) [] []).1 with
        | some y => exact fun bd => ⟨_, GX, call_ex b.h76 rfl rfl bd⟩
        | none =>
          intro bd
          obtain ⟨τ', s', h1, h2, h3⟩ := tail_ok b (k := j) (b0 := s.length) (by rw [st2_len]; have := glen g6; simp at this; have := glen G3; omega) (glen G3) (by have := glen G3; simp; omega) (x6 := x6) (x7 := x7) (keep hi) (keep hn) (keep hm) (keep hq) (st2_a lens hac) (st2_c lenc) vt.1 vk.1 vs.1 d1 d2 d3
          exact ⟨s', GX.trans h1, call_nx b.h76 rfl rfl (bd.trans h3), h2⟩
end SL

set_option Elab.async false
set_option linter.all false
set_option maxRecDepth 100000
set_option autoImplicit false
set_option maxHeartbeats 1000000
/-! SLl: the law's own checks of words and integers. -/
namespace SL
open PySem PySem.Spec PyProof.Rows L2 G
/-- 116: _law_bad_columns -/
def b116 : Cms := .cons (.ret (.call 247 (.cons (.var 0) (.cons (.lst (.cons (.tup (.cons (.var 1) .nil)) (.cons (.tup (.cons (.cst (.int 0)) (.cons (.cst (.int 0)) .nil))) (.cons (.tup (.cons (.cst (.int 1)) (.cons (.cst (.int 0)) .nil))) (.cons (.lst (.cons (.cst (.int 0)) .nil)) (.cons (.tup (.cons (.cst (.bl true)) .nil)) (.cons (.tup (.cons (.neg (.cst (.int 1))) .nil)) (.cons (.cst .non) (.cons (.tup (.cons (.cst (.str "a")) .nil)) (.cons (.cst (.int 0)) (.cons (.tup (.cons (.cst (.int 0)) (.cons (.cst (.int 1)) (.cons (.cst (.int 2)) (.cons (.cst (.int 3)) (.cons (.cst (.int 4)) .nil)))))) .nil))))))))))) .nil)))) .nil
def f116 : Fn := ⟨2, 2, b116⟩
/-- 286: _law_spoil_tables -/
def b286 : Cms := .cons (.asg (.loc (.var 3)) (.call 247 (.cons (.var 0) (.cons (.blt .list (.cons (.var 2) .nil)) .nil))))
    (.cons (.ite (.cmp .eq (.var 1) (.cst (.int 0))) (.cons (.asg (.sub (.var 2) (.call 247 (.cons (.var 0) (.cons (.lst (.cons (.cst (.str "")) (.cons (.cst (.str "A")) (.cons (.bin .add (.var 3) (.cst (.str "1"))) (.cons (.cst (.str "abcdefghi")) (.cons (.bin .add (.var 3) (.cst (.str " "))) (.cons (.cst (.str "a-b")) .nil))))))) .nil)))) (.cst (.int 1))) .nil) (.nil))
    (.cons (.ite (.cmp .eq (.var 1) (.cst (.int 1))) (.cons (.asg (.sub (.var 2) (.var 3)) (.call 247 (.cons (.var 0) (.cons (.lst (.cons (.cst (.int 0)) (.cons (.cst (.int 5)) (.cons (.neg (.cst (.int 1))) (.cons (.cst (.bl true)) (.cons (.cst .non) (.cons (.cst (.str "a")) (.cons (.bin .pow (.cst (.int 10)) (.cst (.int 30))) .nil)))))))) .nil)))) .nil) (.nil))
    (.cons (.ite (.cmp .eq (.var 1) (.cst (.int 2))) (.cons (.ite (.cmp .eq (.call 148 (.cons (.var 0) (.cons (.cst (.int 2)) .nil))) (.cst (.int 0))) (.cons (.expr (.meth .clear (.var 2) .nil)) .nil) (.cons (.for_ (.var 4) .seq (.cons (.lst (.cons (.cst (.str "p")) (.cons (.cst (.str "pq")) (.cons (.cst (.str "pqr")) (.cons (.cst (.str "pqrs")) (.cons (.cst (.str "q")) (.cons (.cst (.str "qr")) .nil))))))) .nil) (.cons (.asg (.sub (.var 2) (.var 4)) (.cst (.int 2))) .nil)) .nil)) .nil) (.nil)) .nil)))
def f286 : Fn := ⟨3, 5, b286⟩
/-- 322: _law_width -/
def b322 : Cms := .cons (.asg (.loc (.var 2)) (.meth .get (.var 0) (.cons (.var 1) (.cons (.cst (.int 2)) .nil))))
    (.cons (.ite (.cmp .nin (.var 2) (.lst (.cons (.cst (.int 1)) (.cons (.cst (.int 2)) (.cons (.cst (.int 3)) (.cons (.cst (.int 4)) .nil)))))) (.cons (.ret (.cst (.int 2))) .nil) (.nil))
    (.cons (.ret (.blt .int (.cons (.var 2) .nil))) .nil))
def f322 : Fn := ⟨2, 3, b322⟩
/-- 284: _law_spoil_keys -/
def b284 : Cms := .cons (.asg (.loc (.var 4)) (.call 247 (.cons (.var 0) (.cons (.bin .add (.blt .list (.cons (.var 2) .nil)) (.lst (.cons (.cst (.str "zzzzzzzz")) .nil))) .nil))))
    (.cons (.ite (.cmp .eq (.var 1) (.cst (.int 3))) (.cons (.asg (.sub (.var 3) (.bin .add (.var 4) (.cst (.str "z")))) (.tup (.cons (.cst (.int 0)) .nil))) .nil) (.nil))
    (.cons (.ite (.cmp .eq (.var 1) (.cst (.int 4))) (.cons (.asg (.loc (.var 5)) (.call 322 (.cons (.var 2) (.cons (.var 4) .nil))))
    (.cons (.asg (.sub (.var 3) (.var 4)) (.call 247 (.cons (.var 0) (.cons (.lst (.cons (.tup .nil) (.cons (.blt .tuple (.cons (.lrg (.var 5)) .nil)) (.cons (.call 116 (.cons (.var 0) (.cons (.var 5) .nil))) .nil)))) .nil)))) .nil)) (.nil)) .nil))
def f284 : Fn := ⟨4, 6, b284⟩
/-- 285: _law_spoil_services -/
def b285 : Cms := .cons (.asg (.loc (.var 4)) (.call 247 (.cons (.var 0) (.cons (.blt .list (.cons (.var 3) .nil)) .nil))))
    (.cons (.asg (.loc (.var 5)) (.call 247 (.cons (.var 0) (.cons (.blt .list (.cons (.var 2) .nil)) .nil))))
    (.cons (.asg (.loc (.var 6)) (.call 322 (.cons (.var 2) (.cons (.var 5) .nil))))
    (.cons (.ite (.cmp .eq (.var 1) (.cst (.int 5))) (.cons (.asg (.sub (.var 3) (.call 247 (.cons (.var 0) (.cons (.lst (.cons (.cst (.str "")) (.cons (.cst (.str "B")) (.cons (.bin .add (.var 4) (.cst (.str "2"))) (.cons (.cst (.str "abcdefghijk")) (.cons (.bin .add (.cst (.str " ")) (.var 4)) .nil)))))) .nil)))) (.tup (.cons (.var 5) (.cons (.tup .nil) (.cons (.cst .non) .nil))))) .nil) (.nil))
    (.cons (.ite (.cmp .eq (.var 1) (.cst (.int 6))) (.cons (.asg (.loc (.var 7)) (.lst (.cons (.tup (.cons (.var 5) (.cons (.tup .nil) .nil))) (.cons (.lst (.cons (.var 5) (.cons (.tup .nil) (.cons (.cst .non) .nil)))) (.cons (.tup (.cons (.bin .add (.var 5) (.cst (.str "z"))) (.cons (.tup .nil) (.cons (.cst .non) .nil)))) (.cons (.tup (.cons (.var 5) (.cons (.call 116 (.cons (.var 0) (.cons (.var 6) .nil))) (.cons (.cst (.int 2)) .nil)))) .nil))))))
    (.cons (.asg (.loc (.var 7)) (.bin .add (.var 7) (.lst (.cons (.tup (.cons (.var 5) (.cons (.tup .nil) (.cons (.call 247 (.cons (.var 0) (.cons (.lst (.cons (.cst (.int 0)) (.cons (.cst (.int 5)) (.cons (.cst (.bl true)) (.cons (.neg (.cst (.int 1))) (.cons (.cst (.str "a")) (.cons (.tup (.cons (.cst (.int 1)) .nil)) .nil))))))) .nil))) .nil)))) (.cons (.cst .non) (.cons (.tup (.cons (.cst (.int 5)) (.cons (.tup .nil) (.cons (.cst .non) .nil)))) .nil))))))
    (.cons (.asg (.sub (.var 3) (.var 4)) (.call 247 (.cons (.var 0) (.cons (.var 7) .nil)))) .nil))) (.nil))
    (.cons (.ite (.cmp .eq (.var 1) (.cst (.int 7))) (.cons (.asg (.sub (.var 3) (.call 325 (.cons (.var 0) (.cons (.bin .add (.cst (.int 1)) (.call 148 (.cons (.var 0) (.cons (.cst (.int 8)) .nil)))) .nil)))) (.tup (.cons (.var 5) (.cons (.tup .nil) (.cons (.bin .add (.cst (.int 1)) (.call 148 (.cons (.var 0) (.cons (.cst (.int 4)) .nil)))) .nil)))))
    (.cons (.asg (.sub (.var 3) (.call 325 (.cons (.var 0) (.cons (.bin .add (.cst (.int 1)) (.call 148 (.cons (.var 0) (.cons (.cst (.int 8)) .nil)))) .nil)))) (.tup (.cons (.var 5) (.cons (.tup .nil) (.cons (.bin .add (.cst (.int 1)) (.call 148 (.cons (.var 0) (.cons (.cst (.int 4)) .nil)))) .nil))))) .nil)) (.nil))
    (.cons (.ite (.cmp .eq (.var 1) (.cst (.int 8))) (.cons (.ite (.cmp .eq (.call 148 (.cons (.var 0) (.cons (.cst (.int 2)) .nil))) (.cst (.int 0))) (.cons (.expr (.meth .clear (.var 3) .nil)) .nil) (.cons (.for_ (.var 8) .seq (.cons (.lst (.cons (.cst (.str "p")) (.cons (.cst (.str "pq")) (.cons (.cst (.str "pqr")) (.cons (.cst (.str "pqrs")) (.cons (.cst (.str "q")) (.cons (.cst (.str "qr")) (.cons (.cst (.str "qrs")) (.cons (.cst (.str "r")) (.cons (.cst (.str "rs")) .nil)))))))))) .nil) (.cons (.asg (.sub (.var 3) (.var 8)) (.tup (.cons (.var 5) (.cons (.tup .nil) (.cons (.cst .non) .nil))))) .nil)) .nil)) .nil) (.nil)) .nil))))))
def f285 : Fn := ⟨4, 9, b285⟩
/-- 185: _law_is_integer -/
def b185 : Cms := .cons (.ret (.and (.isi (.var 0) .int) (.not (.isi (.var 0) .bool)))) .nil
def f185 : Fn := ⟨1, 1, b185⟩
/-- 199: _law_is_word -/
def b199 : Cms := .cons (.ite (.or (.not (.isi (.var 0) .str)) (.or (.cmp .lt (.blt .len (.cons (.var 0) .nil)) (.cst (.int 1))) (.cmp .gt (.blt .len (.cons (.var 0) .nil)) (.cst (.int 8))))) (.cons (.ret (.cst (.bl false))) .nil) (.nil))
    (.cons (.ret (.cmp .eq (.lc (.var 1) (.var 1) .seq (.cons (.var 0) .nil) (.cmp .nin (.var 1) (.cst (.str "abcdefghijklmnopqrstuvwxyz"))) [("_law_sign", 1)]) (.lst .nil))) .nil)
def f199 : Fn := ⟨1, 2, b199⟩
/-- 170: _law_good_columns -/
def b170 : Cms := .cons (.ite (.not (.isi (.var 0) .tuple)) (.cons (.ret (.cst (.bl false))) .nil) (.nil))
    (.cons (.for_ (.var 2) .rng1 (.cons (.blt .len (.cons (.var 0) .nil)) .nil) (.cons (.ite (.or (.not (.call 185 (.cons (.ix (.var 0) (.var 2)) .nil))) (.or (.cmp .lt (.ix (.var 0) (.var 2)) (.cst (.int 0))) (.cmp .ge (.ix (.var 0) (.var 2)) (.var 1)))) (.cons (.ret (.cst (.bl false))) .nil) (.nil))
    (.cons (.ite (.and (.cmp .gt (.var 2) (.cst (.int 0))) (.cmp .ge (.ix (.var 0) (.bin .sub (.var 2) (.cst (.int 1)))) (.ix (.var 0) (.var 2)))) (.cons (.ret (.cst (.bl false))) .nil) (.nil)) .nil)))
    (.cons (.ret (.cst (.bl true))) .nil))
def f170 : Fn := ⟨2, 3, b170⟩
/-- 172: _law_good_service -/
def b172 : Cms := .cons (.ite (.or (.not (.isi (.var 1) .tuple)) (.cmp .ne (.blt .len (.cons (.var 1) .nil)) (.cst (.int 3)))) (.cons (.ret (.cst (.bl false))) .nil) (.nil))
    (.cons (.ite (.or (.not (.isi (.ix (.var 1) (.cst (.int 0))) .str)) (.cmp .nin (.ix (.var 1) (.cst (.int 0))) (.var 0))) (.cons (.ret (.cst (.bl false))) .nil) (.nil))
    (.cons (.ite (.not (.call 170 (.cons (.ix (.var 1) (.cst (.int 1))) (.cons (.ix (.var 0) (.ix (.var 1) (.cst (.int 0)))) .nil)))) (.cons (.ret (.cst (.bl false))) .nil) (.nil))
    (.cons (.ret (.or (.cmp .isn (.ix (.var 1) (.cst (.int 2))) (.cst .non)) (.and (.call 185 (.cons (.ix (.var 1) (.cst (.int 2))) .nil)) (.cmp2 .le .le (.cst (.int 1)) (.ix (.var 1) (.cst (.int 2))) (.cst (.int 4)))))) .nil)))
def f172 : Fn := ⟨2, 2, b172⟩
/-- 159: _law_fault -/
def b159 : Cms := .cons (.ite (.or (.cmp .lt (.blt .len (.cons (.var 0) .nil)) (.cst (.int 1))) (.cmp .gt (.blt .len (.cons (.var 0) .nil)) (.cst (.int 5)))) (.cons (.ret (.tup (.cons (.cst (.str "tables")) (.cons (.cst .non) .nil)))) .nil) (.nil))
    (.cons (.for_ (.var 3) .seq (.cons (.blt .sorted (.cons (.blt .list (.cons (.var 0) .nil)) .nil)) .nil) (.cons (.ite (.or (.not (.call 199 (.cons (.var 3) .nil))) (.or (.not (.call 185 (.cons (.ix (.var 0) (.var 3)) .nil))) (.or (.cmp .lt (.ix (.var 0) (.var 3)) (.cst (.int 1))) (.cmp .gt (.ix (.var 0) (.var 3)) (.cst (.int 4)))))) (.cons (.ret (.tup (.cons (.cst (.str "tables")) (.cons (.var 3) .nil)))) .nil) (.nil)) .nil))
    (.cons (.for_ (.var 3) .seq (.cons (.blt .sorted (.cons (.blt .list (.cons (.var 1) .nil)) .nil)) .nil) (.cons (.ite (.or (.cmp .nin (.var 3) (.var 0)) (.not (.call 170 (.cons (.ix (.var 1) (.var 3)) (.cons (.ix (.var 0) (.var 3)) .nil))))) (.cons (.ret (.tup (.cons (.cst (.str "keys")) (.cons (.var 3) .nil)))) .nil) (.nil))
    (.cons (.ite (.or (.cmp .eq (.blt .len (.cons (.ix (.var 1) (.var 3)) .nil)) (.cst (.int 0))) (.cmp .eq (.blt .len (.cons (.ix (.var 1) (.var 3)) .nil)) (.ix (.var 0) (.var 3)))) (.cons (.ret (.tup (.cons (.cst (.str "keys")) (.cons (.var 3) .nil)))) .nil) (.nil)) .nil)))
    (.cons (.ite (.or (.cmp .lt (.blt .len (.cons (.var 2) .nil)) (.cst (.int 1))) (.cmp .gt (.blt .len (.cons (.var 2) .nil)) (.cst (.int 8)))) (.cons (.ret (.tup (.cons (.cst (.str "services")) (.cons (.cst .non) .nil)))) .nil) (.nil))
    (.cons (.for_ (.var 3) .seq (.cons (.blt .sorted (.cons (.blt .list (.cons (.var 2) .nil)) .nil)) .nil) (.cons (.ite (.or (.not (.call 199 (.cons (.var 3) .nil))) (.not (.call 172 (.cons (.var 0) (.cons (.ix (.var 2) (.var 3)) .nil))))) (.cons (.ret (.tup (.cons (.cst (.str "services")) (.cons (.var 3) .nil)))) .nil) (.nil)) .nil))
    (.cons (.asg (.loc (.var 4)) (.lst .nil))
    (.cons (.for_ (.var 3) .seq (.cons (.blt .sorted (.cons (.blt .list (.cons (.var 2) .nil)) .nil)) .nil) (.cons (.ite (.not (.call 198 (.cons (.var 0) (.cons (.var 1) (.cons (.ix (.var 2) (.var 3)) .nil))))) (.cons (.ite (.cmp .inn (.ix (.ix (.var 2) (.var 3)) (.cst (.int 0))) (.var 4)) (.cons (.ret (.tup (.cons (.cst (.str "capped")) (.cons (.var 3) .nil)))) .nil) (.nil))
    (.cons (.expr (.meth .append (.var 4) (.cons (.ix (.ix (.var 2) (.var 3)) (.cst (.int 0))) .nil))) .nil)) (.nil)) .nil))
    (.cons (.ret (.cst .non)) .nil)))))))
def f159 : Fn := ⟨3, 5, b159⟩
end SL
namespace SL
open PySem L2 G
/-! ### stores that keep their objects, or the kinds of their objects -/
def Gp (s s' : S) : Prop := ∀ (j : Nat) (o : O), s[j]? = some o → s'[j]? = some o
theorem Gp.refl (s : S) : Gp s s := fun _ _ h => h
theorem Gp.trans {a b c : S} (h : Gp a b) (g : Gp b c) : Gp a c := fun j o e => g j o (h j o e)
theorem Gp.of {s s' : S} (h : Gro s s') : Gp s s' := fun _ _ e => h.at e
theorem Gp.new (s : S) (o : O) : Gp s (s ++ [o]) := .of (.new s o)
def kndO : O → Nat
  | .lst _ => 0
  | .dct _ => 1
  | .ins _ _ => 2
  | .frd _ => 3
def Kd (s s' : S) : Prop := ∀ (j : Nat) (o : O), s[j]? = some o → ∃ o', s'[j]? = some o' ∧ kndO o' = kndO o
theorem Kd.refl (s : S) : Kd s s := fun _ o h => ⟨o, h, rfl⟩
theorem Kd.trans {a b c : S} (h : Kd a b) (g : Kd b c) : Kd a c := fun j o e => by
  obtain ⟨o1, h1, e1⟩ := h j o e
  obtain ⟨o2, h2, e2⟩ := g j o1 h1
  exact ⟨o2, h2, e2.trans e1⟩
theorem Gp.kd {s s' : S} (h : Gp s s') : Kd s s' := fun j o e => ⟨o, h j o e, rfl⟩
theorem Pl.kd {s s' : S} (h : Kd s s') {d : D} (p : Pl s d) : Pl s' d := by
  cases d <;> first
    | trivial
    | (refine p.imp (fun ⟨ds, e⟩ => ?_) fun ⟨ds, e⟩ => ?_
       · obtain ⟨o, h1, h2⟩ := h _ _ e
         cases o <;> first
           | (cases h2; done)
           | exact ⟨_, h1⟩
       · obtain ⟨o, h1, h2⟩ := h _ _ e
         cases o <;> first
           | (cases h2; done)
           | exact ⟨_, h1⟩)
theorem SvOk.kd {s s' : S} (h : Kd s s') {d : D} (p : SvOk s d) : SvOk s' d :=
  ⟨p.1.kd h, fun ds e z hz => let ⟨a, b, c⟩ := p.2 ds e z hz; ⟨a.kd h, b, fun es e2 y hy => (c es e2 y hy).kd h⟩⟩
theorem Vals.kd {s s' : S} (g : Kd s s') {ts : List (Str × D)} (h : Vals s ts) : Vals s' ts := ⟨h.1, fun p hp => ⟨(h.2 p hp).1, (h.2 p hp).2.kd g⟩⟩
theorem Vals2.kd {s s' : S} (g : Kd s s') {ts : List (Str × D)} (h : Vals2 s ts) : Vals2 s' ts := ⟨h.1, fun p hp => ⟨(h.2 p hp).1, (h.2 p hp).2.kd g⟩⟩
/-! ### flat values, and lists of them -/
def FlA : D → Prop
  | .non => True
  | .bl _ => True
  | .int _ => True
  | .str x => Asc x
  | _ => False
def flP : D → PyData
  | .bl b => .bool b
  | .int i => .int i
  | .str x => .str x
  | _ => .none
theorem toP_fl {k : Nat} {s : S} {d : D} (h : FlA d) : toP k s d = some (flP d) := by
  cases d <;> first
    | (cases h; done)
    | (cases k <;> simp only [toP, flP])
theorem lay_fl {d : D} (h : FlA d) : PyData.canLay0 (flP d) = true ∧ PyData.depth (flP d) = 0 := by
  cases d <;> first
    | (cases h; done)
    | exact ⟨asc_ok h, rfl⟩
    | exact ⟨rfl, rfl⟩
theorem toPs_fl {k : Nat} {s : S} : ∀ {ds : List D}, (∀ d ∈ ds, FlA d) → toPs k s ds = some (ds.map flP)
  | [], _ => by simp [toPs]
  | d :: ds, h => by simp only [toPs, toP_fl (h d (by simp)), toPs_fl (k := k) (s := s) (ds := ds) fun z hz => h z (by simp [hz]), List.map_cons]
theorem lays_fl : ∀ {ds : List D}, (∀ d ∈ ds, FlA d) → PyData.canLayAll0 (ds.map flP) = true ∧ PyData.depthAll (ds.map flP) = 0
  | [], _ => by simp [PyData.canLayAll0, PyData.depthAll]
  | d :: ds, h => by
    obtain ⟨a, b⟩ := lay_fl (h d (by simp))
    obtain ⟨e, f⟩ := lays_fl (ds := ds) fun z hz => h z (by simp [hz])
    constructor
    · simp only [List.map_cons, PyData.canLayAll0, a, e, Bool.and_self]
    · simp only [List.map_cons, PyData.depthAll, b, f]; decide
theorem shp_fl {d : D} (h : FlA d) : SeqAt.shaped (flP d) = true := by
  obtain ⟨a, b⟩ := lay_fl h
  unfold SeqAt.shaped
  simp only [a, b, Bool.true_and]
  decide
theorem shp_lst {ds : List D} (h : ∀ d ∈ ds, FlA d) : SeqAt.shaped (.list (ds.map flP)) = true := by
  obtain ⟨a, b⟩ := lays_fl h
  unfold SeqAt.shaped
  simp only [PyData.canLay0, PyData.depth, a, b, Bool.true_and]
  decide
theorem shp_tup {ds : List D} (h : ∀ d ∈ ds, FlA d) : SeqAt.shaped (.tuple (ds.map flP)) = true := by
  obtain ⟨a, b⟩ := lays_fl h
  unfold SeqAt.shaped
  simp only [PyData.canLay0, PyData.depth, a, b, Bool.true_and]
  decide
/-- a list of flat things == [] -/
theorem eq_nil {s : S} {m n : Nat} {ds : List D} (h : ∀ d ∈ ds, FlA d) (h1 : s[m]? = some (.lst ds)) (h2 : s[n]? = some (.lst [])) : eqD (.ref m) (.ref n) s = .ok ds.isEmpty s := by
  rw [eqD_lst h1]
  simp only [eqP, toP_ref h1, toP_ref h2, toPs_fl h, toPs, Option.map_some]
  rw [if_pos ⟨shp_lst h, by rfl⟩]
  congr 1
  cases ds <;> simp [PyData.eqv, PyData.eqvAll]
theorem lcS_cons {ok : S → Prop} {g : D → S → R (Option D)} {d : D} {ds r : List D} {od : Option D} {s s1 s2 : S} (h : ok s) (h1 : g d s = .ok od s1) (h2 : lcS ok g ds s1 = .ok r s2) : lcS ok g (d :: ds) s = .ok (od.toList ++ r) s2 := by
  unfold lcS
  rw [if_pos h, h1, R.bind_ok, h2, R.bind_ok]
  cases od <;> rfl
/-- a comprehension that keeps some of its items -/
theorem lcS_keep {ok : S → Prop} {g : D → S → R (Option D)} {s : S} {p : D → Bool} (hok : ok s) : ∀ (ds : List D), (∀ d ∈ ds, g d s = .ok (if p d = true then some d else none) s) → lcS ok g ds s = .ok (ds.filter p) s
  | [], _ => by unfold lcS; rw [if_pos hok]; rfl
  | d :: ds, h => by
    rw [lcS_cons hok (h d (by simp)) (lcS_keep hok ds fun z hz => h z (by simp [hz])), List.filter_cons]
    cases p d <;> rfl
structure BW (Γ : Ga) : Prop extends B8 Γ where
  h198 : Γ.fns.lookup 198 = some f198
structure BL (Γ : Ga) : Prop extends BW Γ where
  h185 : Γ.fns.lookup 185 = some f185
  h199 : Γ.fns.lookup 199 = some f199
  h170 : Γ.fns.lookup 170 = some f170
  h172 : Γ.fns.lookup 172 = some f172
  h159 : Γ.fns.lookup 159 = some f159
theorem l_integer {Γ : Ga} (b : BL Γ) {k : Nat} (hk : 1 ≤ k) {s : S} {d : D} (h : Pl s d) : (clF Γ k).call 185 [d] s = .ok (.bl (intOf d)) s := by
  obtain ⟨j, rfl, hj⟩ := lv hk
  refine call_rt b.h185 (τ := [some d]) rfl rfl (exs_ret ?_)
  obtain ⟨_, h1, h2, _⟩ := isi_at h
  simp only [evE, ev, plainT, List.getElem?_cons_zero, R.bind_ok, h1]
  cases d <;> first | rfl | (simp only [isI, R.bind_ok, h2]; rfl)
theorem fl_chars {x : Str} (h : Asc x) : ∀ d ∈ chars x, FlA d := by
  intro d hd
  obtain ⟨c, hc, rfl⟩ := List.mem_map.mp hd
  exact asc_one (h c hc)
def nlet : D → Bool
  | .str ⟨cs⟩ => cs.toList.any fun c => !decide (c ∈ letters.cps.toList)
  | _ => false
theorem l_word {Γ : Ga} (b : BL Γ) {k : Nat} (hk : 1 ≤ k) {s : S} {d : D} (h : Pl s d) (hz : ∀ x, d = .str x → x.length ≤ 10000 ∧ Asc x) : ∃ s', Gp s s' ∧ (clF Γ k).call 199 [d] s = .ok (.bl (isWordD d)) s' := by
  obtain ⟨j, rfl, hj⟩ := lv hk
  have hi := (isi_at h).1
  cases d with
  | str x =>
    obtain ⟨hx, ha⟩ := hz x rfl
    have hc : evT (clF Γ j) (.or (.not (.isi (.var 0) .str)) (.or (.cmp .lt (.blt .len (.cons (.var 0) .nil)) (.cst (.int 1))) (.cmp .gt (.blt .len (.cons (.var 0) .nil)) (.cst (.int 8))))) [some (.str x), none] s = .ok (!decide (1 ≤ x.length ∧ x.length ≤ 8)) s := by
      simp only [evT, ev, evs, plainT, asB, List.getElem?_cons_zero, R.bind_ok, hi, isS, truD, Bool.not_true, Bool.false_eq_true, if_false, Cst.d, lenS (s := s) hx, cmpD, ltD]
      by_cases h1 : 1 ≤ x.length
      · rw [decide_eq_false (by omega : ¬ (x.length : Int) < 1), if_neg Bool.false_ne_true]
        by_cases h2 : x.length ≤ 8
        · rw [decide_eq_false (by omega), decide_eq_true ⟨h1, h2⟩]; rfl
        · rw [decide_eq_true (by omega), decide_eq_false (fun z => h2 z.2)]; rfl
      · rw [decide_eq_true (by omega : (x.length : Int) < 1), if_pos rfl, decide_eq_false (fun z => h1 z.1)]
        rfl
    by_cases hl : 1 ≤ x.length ∧ x.length ≤ 8
    · rw [decide_eq_true hl] at hc
      have hw : isWordD (.str x) = x.cps.toList.all fun c => decide (c ∈ letters.cps.toList) := by simp only [isWordD, wordB, decide_eq_true hl, Bool.true_and]
      have hlc : lcS (Src.vals (chars x)).ok (lcB (clF Γ j) [some (.str x), none] [1] (.var 1) (.cmp .nin (.var 1) (.cst (.str "abcdefghijklmnopqrstuvwxyz"))) (.var 1)) (chars x) s = .ok ((chars x).filter nlet) s := by
        refine lcS_keep trivial _ fun d hd => ?_
        obtain ⟨c, hc, rfl⟩ := List.mem_map.mp hd
        have e : evT (clF Γ j) (.cmp .nin (.var 1) (.cst (.str "abcdefghijklmnopqrstuvwxyz"))) [some (.str x), some (.str ⟨#[c]⟩)] s = .ok (nlet (.str ⟨#[c]⟩)) s := by
          simp only [evT, ev, asB, plainT, List.getElem?_cons_succ, List.getElem?_cons_zero, R.bind_ok, Cst.d]
          refine (nin_sign (c := c)).trans ?_
          simp [nlet]
        cases hq : nlet (.str ⟨#[c]⟩) with
        | true => rw [hq] at e; exact lcB_if rfl e rfl
        | false => rw [hq] at e; exact lcB_no rfl e
      have hfl : ∀ d ∈ (chars x).filter nlet, FlA d := fun d hd => fl_chars ha d (List.mem_filter.mp hd).1
      have e2 : evE (clF Γ j) (.lc (.var 1) (.var 1) .seq (.cons (.var 0) .nil) (.cmp .nin (.var 1) (.cst (.str "abcdefghijklmnopqrstuvwxyz"))) [("_law_sign", 1)]) [some (.str x), none] s = .ok (.ref s.length) (s ++ [.lst ((chars x).filter nlet)]) :=
        ev_lc (s2 := s) (src := .vals (chars x)) rfl rfl (by
          show (chars x).length < _
          unfold chars
          rw [List.length_map, sizeLine_eq]
          have : x.cps.toList.length = x.length := by simp [Str.length]
          omega) hlc
      have g1 := Gp.new s (.lst ((chars x).filter nlet))
      have g2 := Gp.new (s ++ [.lst ((chars x).filter nlet)]) (.lst [])
      refine ⟨_, g1.trans g2, call_rt b.h199 (τ := [some (.str x), none]) rfl rfl ((exs_skip hc).trans (exs_ret ?_))⟩
      have e2 : (ev (clF Γ j) _).1 _ s = _ := e2
      have e3 := eq_nil (s := (s ++ [.lst ((chars x).filter nlet)]) ++ [.lst []]) hfl (g2 _ _ new_at) new_at
      have : ((chars x).filter nlet).isEmpty = x.cps.toList.all fun c => decide (c ∈ letters.cps.toList) := by
        rw [Bool.eq_iff_iff, List.isEmpty_iff, List.filter_eq_nil_iff, List.all_eq_true]
        unfold chars
        constructor
        · intro h c hc
          have := h (.str ⟨#[c]⟩) (List.mem_map.mpr ⟨c, hc, rfl⟩)
          simpa [nlet] using this
        · intro h d hd
          obtain ⟨c, hc, rfl⟩ := List.mem_map.mp hd
          simpa [nlet] using h c hc
      rw [evE, ev]
      simp only [asB]
      rw [e2]
      simp only [R.bind_ok, ev, evs, plainT, new, cmpD, e3]
      rw [hw, this]
    · rw [decide_eq_false hl] at hc
      have hw : isWordD (.str x) = false := by simp only [isWordD, wordB, decide_eq_false hl, Bool.false_and]
      rw [hw]
      exact ⟨s, Gp.refl s, call_rt b.h199 (τ := [some (.str x), none]) rfl rfl (exs_in hc rfl)⟩
  | _ =>
    refine ⟨s, Gp.refl s, call_rt b.h199 rfl rfl (exs_in (s' := s) ?_ rfl)⟩
    simp only [evT, ev, plainT, List.cons_append, List.map_cons, List.getElem?_cons_zero, R.bind_ok, hi, isS, truD, Bool.not_false, if_true]
end SL

set_option Elab.async false
set_option linter.all false
set_option maxRecDepth 100000
set_option autoImplicit false
set_option maxHeartbeats 1000000
/-! SLm: the law's own checks of columns and services. -/
namespace SL
open PySem L2 G
def colBody : Cms := .cons (.ite (.or (.not (.call 185 (.cons (.ix (.var 0) (.var 2)) .nil))) (.or (.cmp .lt (.ix (.var 0) (.var 2)) (.cst (.int 0))) (.cmp .ge (.ix (.var 0) (.var 2)) (.var 1)))) (.cons (.ret (.cst (.bl false))) .nil) (.nil))
    (.cons (.ite (.and (.cmp .gt (.var 2) (.cst (.int 0))) (.cmp .ge (.ix (.var 0) (.bin .sub (.var 2) (.cst (.int 1)))) (.ix (.var 0) (.var 2)))) (.cons (.ret (.cst (.bl false))) .nil) (.nil)) .nil)
theorem ixT {ds : List D} {d : D} {i : Nat} {s : S} (h : ds[i]? = some d) : ixD (.tup ds) (.int (i : Nat)) s = .ok d s := ixD_tup (by omega) (by simpa using h)
theorem cols_at {Γ : Ga} (b : BL Γ) {k : Nat} (hk : 1 ≤ k) {ok : S → Prop} (hok : ∀ s, ok s) {ds : List D} {w : Int} {s : S} (hp : ∀ z ∈ ds, Pl s z) : ∀ (suf pre : List D) (l : Int) (x : Option D), ds = pre ++ suf → (pre = [] ∧ l = -1 ∨ 0 ≤ l ∧ ∃ p, pre = p ++ [.int l]) →
    (forS ok (forB (clF Γ k) (.var 2) colBody) ((List.range' pre.length suf.length).map fun i => D.int ((0 : Int) + (i : Nat))) [some (.tup ds), some (.int w), x] s).bind (fun τ s => exs (clF Γ k) (.cons (.ret (.cst (.bl true))) .nil) τ s) = .rt (.bl (colsB l w suf)) s
  | [], pre, l, x, _, _ => by
    rw [List.length_nil, List.range'_zero, List.map_nil, forS_nil (hok s), SR.bind_nx]; rfl
  | d :: suf, pre, l, x, he, hl => by
    have hat : ds[pre.length]? = some d := by rw [he]; simp
    have hd : d ∈ ds := by rw [he]; simp
    have hi := l_integer b hk (hp d hd)
    have ia := ixT (s := s) hat
    rw [List.length_cons, List.range'_succ, List.map_cons, Int.zero_add]
    have c1 : evT (clF Γ k) (.or (.not (.call 185 (.cons (.ix (.var 0) (.var 2)) .nil))) (.or (.cmp .lt (.ix (.var 0) (.var 2)) (.cst (.int 0))) (.cmp .ge (.ix (.var 0) (.var 2)) (.var 1)))) [some (.tup ds), some (.int w), some (.int (pre.length : Nat))] s = .ok (!colsB (-1) w [d]) s := by
      simp only [evT, ev, evs, plainT, asB, List.getElem?_cons_zero, List.getElem?_cons_succ, R.bind_ok, ia, hi, truD]
      cases d <;> first
        | rfl
        | (rename_i c
           simp only [intOf, Bool.not_true, Bool.false_eq_true, if_false, R.bind_ok, cmpD, ltD, colsB, Bool.and_true, Cst.d]
           by_cases h1 : c < 0
           · rw [decide_eq_true h1, if_pos rfl, decide_eq_false (by omega : ¬ -1 < c)]; rfl
           · rw [decide_eq_false h1, if_neg Bool.false_ne_true, decide_eq_true (by omega : -1 < c), Bool.true_and]
             simp only [ia, R.bind_ok]
             by_cases h2 : c < w
             · rw [decide_eq_true h2, decide_eq_false (by omega)]; rfl
             · rw [decide_eq_false h2, decide_eq_true (by omega)]; rfl)
    rcases Bool.eq_false_or_eq_true (colsB (-1) w [d]) with hq | hq
    · rw [hq] at c1
      obtain ⟨c, rfl, q1, q2⟩ : ∃ c, d = .int c ∧ -1 < c ∧ c < w := by
        clear c1 hi ia hat hd he
        cases d <;> first
          | (cases hq; done)
          | (rename_i c
             simp only [colsB, Bool.and_true, Bool.and_eq_true, decide_eq_true_eq] at hq
             exact ⟨c, rfl, hq.1, hq.2⟩)
      have c2 : evT (clF Γ k) (.and (.cmp .gt (.var 2) (.cst (.int 0))) (.cmp .ge (.ix (.var 0) (.bin .sub (.var 2) (.cst (.int 1)))) (.ix (.var 0) (.var 2)))) [some (.tup ds), some (.int w), some (.int (pre.length : Nat))] s = .ok (!decide (l < c)) s := by
        rcases hl with ⟨rfl, rfl⟩ | ⟨hl, p, rfl⟩
        · rw [decide_eq_true q1]; rfl
        · have e1 : ((p ++ [D.int l]).length : Int) - 1 = ((p.length : Nat) : Int) := by simp
          have ib := ixT (s := s) (ds := ds) (i := p.length) (d := .int l) (by rw [he]; simp)
          have e2 : decide ((0 : Int) < ((p ++ [D.int l]).length : Nat)) = true := decide_eq_true (by simp)
          simp only [evT, ev, evs, plainT, asB, List.getElem?_cons_zero, List.getElem?_cons_succ, R.bind_ok, cmpD, Cst.d, e2, if_true, subI, e1, ib, ia]
          congr 1
          by_cases h : l < c
          · rw [decide_eq_true h, decide_eq_false (by omega)]; rfl
          · rw [decide_eq_false h, decide_eq_true (by omega)]; rfl
      by_cases h3 : l < c
      · rw [decide_eq_true h3] at c2
        rw [forS_nx (hok s) (τ' := [some (.tup ds), some (.int w), some (.int (pre.length : Nat))]) (s' := s)]
        · have := cols_at b hk hok (w := w) hp suf (pre ++ [.int c]) c (some (.int (pre.length : Nat))) (by rw [he]; simp) (.inr ⟨by omega, pre, rfl⟩)
          rw [List.length_append] at this
          refine this.trans ?_
          simp only [colsB, decide_eq_true h3, decide_eq_true q2, Bool.true_and]
        · rw [forB_var]
          exact (exs_skip c1).trans ((exs_skip c2).trans rfl)
      · rw [decide_eq_false h3] at c2
        rw [forS_rt (hok s) (x := .bl false) (s' := s), SR.bind_rt]
        · simp only [colsB, decide_eq_false h3, Bool.false_and]
        · rw [forB_var]
          exact (exs_skip c1).trans (exs_in c2 rfl)
    · rw [hq] at c1
      have e : colsB l w (d :: suf) = false := by
        clear c1 hi ia hat hd he
        cases d <;> first
          | rfl
          | (rename_i c
             simp only [colsB, Bool.and_true] at hq ⊢
             have hm : -1 ≤ l := by rcases hl with ⟨_, rfl⟩ | ⟨h, _⟩ <;> omega
             by_cases h : l < c
             · rw [decide_eq_true (by omega : -1 < c), Bool.true_and] at hq
               rw [hq, Bool.and_false, Bool.false_and]
             · rw [decide_eq_false h, Bool.false_and, Bool.false_and])
      rw [forS_rt (hok s) (x := .bl false) (s' := s), SR.bind_rt, e]
      rw [forB_var]
      exact exs_in c1 rfl
theorem l_columns {Γ : Ga} (b : BL Γ) {k : Nat} (hk : 2 ≤ k) {s : S} {d : D} {w : Int} (h : Pl s d) (ht : ∀ ds, d = .tup ds → ds.length < 2 ^ 62 ∧ ∀ z ∈ ds, Pl s z) : (clF Γ k).call 170 [d, .int w] s = .ok (.bl (isColsD d w)) s := by
  obtain ⟨j, rfl, hj⟩ := lv hk
  have hi := (isi_at h).2.2.2
  refine call_rt b.h170 (τ := [some d, some (.int w), none]) rfl rfl ?_
  cases d with
  | tup ds =>
    obtain ⟨hl, hp⟩ := ht ds rfl
    refine (exs_skip (s' := s) ?_).trans ?_
    · simp only [evT, ev, plainT, List.getElem?_cons_zero, R.bind_ok, hi, isT, truD, Bool.not_true]
    · rw [exs, ex_for (its := .cons (.blt .len (.cons (.var 0) .nil)) .nil) (ds := [.int ds.length]) (s1 := s) rfl (src_rng (by omega) (by omega) s)]
      have := cols_at b hj (ok := (Src.vals (rngD 0 ((ds.length : Nat) : Int).toNat)).ok) (fun _ => trivial) hp ds [] (-1) none (w := w) rfl (.inl ⟨rfl, rfl⟩)
      have e : (Src.vals (rngD 0 ((ds.length : Nat) : Int).toNat)).items = (List.range' 0 ds.length).map fun i => D.int ((0 : Int) + (i : Nat)) := by
        show rngD 0 ((ds.length : Nat) : Int).toNat = _
        rw [Int.toNat_natCast]
        unfold rngD
        rw [List.range_eq_range']
      rw [e]
      exact this
  | _ =>
    refine exs_in (s' := s) ?_ rfl
    simp only [evT, ev, plainT, List.getElem?_cons_zero, R.bind_ok, hi, isT, truD, Bool.not_false, if_true]
/-- tables whose names are words -/
def WOk (ts : List (Str × D)) : Prop := ∀ x d, getK ts x = some d → wordB x = true
theorem wok_of {ts : List (Str × D)} (h : faultT ts = none) : WOk ts := by
  intro x d hd
  unfold faultT at h
  split at h
  · have := find_none h x (mem_sortT.mpr (mem_of_getK hd))
    simp only [badT, hd] at this
    simp at this
    exact this.1
  · cases h
/-- things of not too many parts -/
def ShT (d : D) : Prop := ∀ ds, d = .tup ds → ∀ z ∈ ds, ∀ es, z = .tup es → es.length < 2 ^ 62
theorem l_cap {Γ : Ga} (b : BL Γ) {k : Nat} (hk : 1 ≤ k) {s : S} {τ : Fr} {t g c : D} (hc : τ[1]? = some (some (.tup [t, g, c]))) (h : Pl s c) :
    evE (clF Γ k) (.or (.cmp .isn (.ix (.var 1) (.cst (.int 2))) (.cst .non)) (.and (.call 185 (.cons (.ix (.var 1) (.cst (.int 2))) .nil)) (.cmp2 .le .le (.cst (.int 1)) (.ix (.var 1) (.cst (.int 2))) (.cst (.int 4))))) τ s = .ok (.bl (isCapD c)) s := by
  have hi := l_integer b hk h
  have e1 : cmpD .isn c .non s = .ok c.isNon s := rfl
  have e2 : ixD (.tup [t, g, c]) (.int 2) s = .ok c s := rfl
  simp only [evE, ev, evs, plainT, asB, hc, R.bind_ok, Cst.d, e2, e1]
  cases c <;> first
    | rfl
    | (simp only [D.isNon, R.bind_ok, hi, intOf]; rfl)
    | (rename_i c
       simp only [D.isNon, R.bind_ok, hi, intOf, cmpD, leD, isCapD, e2]
       by_cases h1 : 1 ≤ c
       · rw [decide_eq_true h1, if_pos rfl]; rfl
       · rw [decide_eq_false h1, if_neg Bool.false_ne_true]; rfl)
theorem l_service {Γ : Ga} (b : BL Γ) {k : Nat} (hk : 3 ≤ k) {s : S} {m : Nat} {ts : List (Str × D)} {d : D} (hm : s[m]? = some (.dct (DK ts))) (ht : TOk ts) (hw : WOk ts) (h : SvOk s d) (hs : ShT d) : (clF Γ k).call 172 [.ref m, d] s = .ok (.bl (isServD (DK ts) d)) s := by
  obtain ⟨j, rfl, hj⟩ := lv hk
  have hi := (isi_at h.1).2.2.2
  refine call_rt b.h172 (τ := [some (.ref m), some d]) rfl rfl ?_
  cases d with
  | tup ds =>
    have hc : evT (clF Γ j) (.or (.not (.isi (.var 1) .tuple)) (.cmp .ne (.blt .len (.cons (.var 1) .nil)) (.cst (.int 3)))) [some (.ref m), some (.tup ds)] s = .ok (!((ds.length : Int) == 3)) s := by
      have e2 : bltD .len [.tup ds] s = .ok (.int ds.length) s := rfl
      simp only [evT, ev, evs, plainT, asB, List.getElem?_cons_zero, List.getElem?_cons_succ, R.bind_ok, hi, isT, truD, Bool.not_true, Bool.false_eq_true, if_false, e2, Cst.d, neI]
    match ds, h, hi, hc, hs with
    | [t, g, c], h, hi, hc, hs =>
      refine (exs_skip (s' := s) hc).trans ?_
      obtain ⟨t1, t2, _⟩ := h.2 _ rfl t (by simp)
      obtain ⟨g1, _, g3⟩ := h.2 _ rfl g (by simp)
      obtain ⟨c1, _, _⟩ := h.2 _ rfl c (by simp)
      have i0 : ixD (.tup [t, g, c]) (.int 0) s = .ok t s := rfl
      have i1 : ixD (.tup [t, g, c]) (.int 1) s = .ok g s := rfl
      have it := (isi_at t1).1
      cases t with
      | str x =>
        have nn := nin_dct (x := x) hm
        rw [getK_DK] at nn
        have c2 : evT (clF Γ j) (.or (.not (.isi (.ix (.var 1) (.cst (.int 0))) .str)) (.cmp .nin (.ix (.var 1) (.cst (.int 0))) (.var 0))) [some (.ref m), some (.tup [.str x, g, c])] s = .ok (!(getK ts x).isSome) s := by
          simp only [evT, ev, evs, plainT, asB, List.getElem?_cons_zero, List.getElem?_cons_succ, R.bind_ok, Cst.d, i0, it, isS, truD, Bool.not_true, Bool.false_eq_true, if_false, nn]
        cases hg : getK ts x with
        | none =>
          have e : isServD (DK ts) (.tup [.str x, g, c]) = false := by simp only [isServD, getK_DK, hg, Bool.and_false]
          rw [e]
          rw [hg] at c2
          exact exs_in c2 rfl
        | some v =>
          obtain ⟨w, rfl⟩ := ht _ _ hg
          have hwx := hw _ _ hg
          rw [hg] at c2
          have ix := ix_dct hm (x := x) (by rw [getK_DK]; exact hg)
          have hcl := l_columns b (k := j) hj g1 (w := w) (fun es e => ⟨hs _ rfl g (by simp) es e, g3 es e⟩)
          have e : isServD (DK ts) (.tup [.str x, g, c]) = (isColsD g w && isCapD c) := by simp only [isServD, getK_DK, hg, hwx, Bool.true_and]
          rw [e]
          refine (exs_skip c2).trans ?_
          have c3 : evT (clF Γ j) (.not (.call 170 (.cons (.ix (.var 1) (.cst (.int 1))) (.cons (.ix (.var 0) (.ix (.var 1) (.cst (.int 0)))) .nil)))) [some (.ref m), some (.tup [.str x, g, c])] s = .ok (!isColsD g w) s := by
            simp only [evT, ev, evs, plainT, asB, List.getElem?_cons_zero, List.getElem?_cons_succ, R.bind_ok, Cst.d, i0, i1, ix, hcl, truD]
          cases hq : isColsD g w with
          | true =>
            rw [hq] at c3
            refine (exs_skip c3).trans (exs_ret ?_)
            rw [Bool.true_and]
            exact l_cap b (by omega) rfl c1
          | false =>
            rw [hq] at c3
            rw [Bool.false_and]
            exact exs_in c3 rfl
      | _ =>
        refine exs_in (s' := s) ?_ rfl
        simp only [evT, ev, evs, plainT, asB, List.getElem?_cons_zero, List.getElem?_cons_succ, R.bind_ok, Cst.d, i0, it, isS, truD, Bool.not_false, if_true]
    | [], h, hi, hc, hs => exact exs_in hc rfl
    | [a], h, hi, hc, hs =>
      rw [show isServD (DK ts) (.tup [a]) = false by unfold isServD; split <;> first | rfl | (rename_i q; cases q)]
      exact exs_in hc rfl
    | [a, b2], h, hi, hc, hs =>
      rw [show isServD (DK ts) (.tup [a, b2]) = false by unfold isServD; split <;> first | rfl | (rename_i q; cases q)]
      exact exs_in hc rfl
    | a :: b2 :: c :: e :: r, h, hi, hc, hs =>
      have : ((((a :: b2 :: c :: e :: r).length : Nat) : Int) == 3) = false := by simp; omega
      rw [this] at hc
      have e2 : isServD (DK ts) (.tup (a :: b2 :: c :: e :: r)) = false := by
        unfold isServD
        split
        · rename_i q; cases q
        · rfl
      rw [e2]
      exact exs_in hc rfl
  | _ =>
    refine exs_in (s' := s) ?_ rfl
    simp only [evT, ev, evs, plainT, asB, List.getElem?_cons_zero, List.getElem?_cons_succ, R.bind_ok, hi, isT, truD, Bool.not_false, if_true]
end SL

set_option Elab.async false
set_option linter.all false
set_option maxRecDepth 100000
set_option autoImplicit false
set_option maxHeartbeats 1000000
/-! SLn: the law's own rule of whole answers, its loops. -/
namespace SL
open PySem L2 G
theorem filter_nil {α : Type} {p : α → Bool} (ds : List α) : (ds.filter fun z => !p z).isEmpty = ds.all p := by
  rw [Bool.eq_iff_iff, List.isEmpty_iff, List.filter_eq_nil_iff, List.all_eq_true]
  constructor
  · intro h c hc
    simpa using h c hc
  · intro h c hc
    simpa using h c hc
theorem serv_shape {ts : List (Str × D)} {d : D} (hd : isServD (DK ts) d = true) : ∃ t g c w, d = .tup [.str t, .tup g, c] ∧ getK ts t = some (.int w) ∧ colsB (-1) w g = true ∧ isCapD c = true := by
  unfold isServD at hd
  split at hd
  · rename_i t g c
    rw [getK_DK] at hd
    split at hd
    · rename_i w hw
      simp only [Bool.and_eq_true] at hd
      cases g <;> first
        | (have q := hd.2.1; cases q; done)
        | exact ⟨t, _, c, w, rfl, hw, hd.2.1, hd.2.2⟩
    · simp at hd
  · cases hd
/-- the same rule, where the law asks it -/
theorem l_whole {Γ : Ga} (b : BW Γ) {k : Nat} (hk : 1 ≤ k) {s : S} {n m : Nat} {ts ks : List (Str × D)} {d : D} (hn : s[n]? = some (.dct (DK ts))) (hm : s[m]? = some (.dct (DK ks))) (ht : KOk ts ks)
    (hs : ∃ t g c w, d = .tup [.str t, .tup g, c] ∧ getK ts t = some (.int w) ∧ colsB (-1) w g = true)  (hl : ∀ x cs, getK ks x = some (.tup cs) → cs.length < 2 ^ 20) :
    ∃ s', Gp s s' ∧ (clF Γ k).call 198 [.ref n, .ref m, d] s = .ok (.bl (wholeB ts ks d)) s' := by
  obtain ⟨j, rfl, hj⟩ := lv hk
  obtain ⟨t, g, c, w, rfl, h1, h2⟩ := hs
  have it := ix_dct hn (x := t) (by rw [getK_DK]; exact h1)
  have nn := nin_dct (x := t) hm
  rw [getK_DK] at nn
  have e1 : cmpD .isn c .non s = .ok c.isNon s := rfl
  have hc : evT (clF Γ j) (.or (.cmp .isn (.var 5) (.cst .non)) (.cmp .eq (.blt .len (.cons (.var 4) .nil)) (.ix (.var 0) (.var 3)))) [some (.ref n), some (.ref m), some (.tup [.str t, .tup g, c]), some (.str t), some (.tup g), some c, none] s = .ok (c.isNon || (g.length : Int) == w) s := by
    simp only [evT, ev, evs, plainT, asB, List.getElem?_cons_zero, List.getElem?_cons_succ, R.bind_ok, Cst.d, e1, lenT, it, eqI]
    cases c.isNon <;> rfl
  have pre : ∀ cs, exs (clF Γ j) (.cons (.asg (.loc (.tup [3, 4, 5])) (.var 2)) cs) [some (.ref n), some (.ref m), some (.tup [.str t, .tup g, c]), none, none, none, none] s = exs (clF Γ j) cs [some (.ref n), some (.ref m), some (.tup [.str t, .tup g, c]), some (.str t), some (.tup g), some c, none] s := fun cs => exs_nx rfl
  simp only [wholeB, h1]
  cases hq : c.isNon || (g.length : Int) == w with
  | true =>
    rw [hq] at hc
    rw [Bool.true_or]
    exact ⟨s, Gp.refl s, call_rt b.h198 (τ := [some (.ref n), some (.ref m), some (.tup [.str t, .tup g, c]), none, none, none, none]) rfl rfl ((pre _).trans (exs_in hc rfl))⟩
  | false =>
    rw [hq] at hc
    rw [Bool.false_or]
    cases hk' : getK ks t with
    | none =>
      refine ⟨s, Gp.refl s, call_rt b.h198 (τ := [some (.ref n), some (.ref m), some (.tup [.str t, .tup g, c]), none, none, none, none]) rfl rfl ((pre _).trans ((exs_skip hc).trans ?_))⟩
      refine exs_in (s' := s) ?_ rfl
      simp only [evT, ev, plainT, asB, List.getElem?_cons_zero, List.getElem?_cons_succ, R.bind_ok, nn, hk', Option.isSome_none, Bool.not_false]
    | some d =>
      obtain ⟨w2, h4, h5⟩ := ht _ _ hk'
      obtain ⟨cs, rfl, h6⟩ : ∃ cs, d = .tup cs ∧ colsB (-1) w2 cs = true := by
        cases d <;> first
          | (cases h5; done)
          | (simp only [keyB, Bool.and_eq_true] at h5
             exact ⟨_, rfl, h5.1⟩)
      have ik := ix_dct hm (x := t) (by rw [getK_DK]; exact hk')
      have f1 : ∀ z ∈ g, flatD z = true := fun z hz => by obtain ⟨i, rfl⟩ := colsB_int h2 z hz; rfl
      have f2 : ∀ z ∈ cs, flatD z = true := fun z hz => by obtain ⟨i, rfl⟩ := colsB_int h6 z hz; rfl
      have hlc : lcS (Src.vals cs).ok (lcB (clF Γ j) [some (.ref n), some (.ref m), some (.tup [.str t, .tup g, c]), some (.str t), some (.tup g), some c, none] [6] (.var 6) (.cmp .nin (.var 6) (.var 4)) (.var 6)) cs s = .ok (cs.filter fun z => !(g.any fun y => eqF y z)) s := by
        refine lcS_keep trivial _ fun z hz => ?_
        have e : evT (clF Γ j) (.cmp .nin (.var 6) (.var 4)) [some (.ref n), some (.ref m), some (.tup [.str t, .tup g, c]), some (.str t), some (.tup g), some c, some z] s = .ok (!(g.any fun y => eqF y z)) s := by
          have h2' : g.all flatD = true := List.all_eq_true.mpr f1
          obtain ⟨i, rfl⟩ := colsB_int h6 z hz
          have : inD (.int i) (.tup g) s = .ok (g.any fun y => eqF y (.int i)) s := by
            simp only [inD]; exact if_pos ⟨rfl, h2'⟩
          simp only [evT, ev, asB, plainT, List.getElem?_cons_succ, List.getElem?_cons_zero, R.bind_ok, cmpD, this]
        cases hq : !(g.any fun y => eqF y z) with
        | true => rw [hq] at e; exact lcB_if rfl e rfl
        | false => rw [hq] at e; exact lcB_no rfl e
      have hfl : ∀ d ∈ cs.filter fun z => !(g.any fun y => eqF y z), FlA d := fun d hd => by
        obtain ⟨i, rfl⟩ := colsB_int h6 d (List.mem_filter.mp hd).1
        trivial
      have e2 : evE (clF Γ j) (.lc (.var 6) (.var 6) .seq (.cons (.ix (.var 1) (.var 3)) .nil) (.cmp .nin (.var 6) (.var 4)) [("_law_column", 6)]) [some (.ref n), some (.ref m), some (.tup [.str t, .tup g, c]), some (.str t), some (.tup g), some c, none] s = .ok (.ref s.length) (s ++ [.lst (cs.filter fun z => !(g.any fun y => eqF y z))]) :=
        ev_lc (s2 := s) (s1 := s) (ds := [.tup cs]) (src := .vals cs) (by simp only [evs, ev, plainT, List.getElem?_cons_zero, List.getElem?_cons_succ, R.bind_ok, ik]) rfl (by
          show cs.length < _
          have := hl _ _ hk'
          rw [sizeLine_eq]
          omega) hlc
      have g1 := Gp.new s (.lst (cs.filter fun z => !(g.any fun y => eqF y z)))
      have g2 := Gp.new (s ++ [.lst (cs.filter fun z => !(g.any fun y => eqF y z))]) (.lst [])
      refine ⟨_, g1.trans g2, call_rt b.h198 (τ := [some (.ref n), some (.ref m), some (.tup [.str t, .tup g, c]), none, none, none, none]) rfl rfl ((pre _).trans ((exs_skip hc).trans ((exs_skip (s' := s) ?_).trans (exs_ret ?_))))⟩
      · simp only [evT, ev, plainT, asB, List.getElem?_cons_zero, List.getElem?_cons_succ, R.bind_ok, nn, hk', Option.isSome_some, Bool.not_true]
      · have e2 : (ev (clF Γ j) _).1 _ s = _ := e2
        have e3 := eq_nil (s := (s ++ [.lst (cs.filter fun z => !(g.any fun y => eqF y z))]) ++ [.lst []]) hfl (g2 _ _ new_at) new_at
        rw [evE, ev]
        simp only [asB]
        rw [e2]
        simp only [R.bind_ok, ev, evs, plainT, new, cmpD, e3]
        rw [filter_nil]
/-- a loop over names that hands back at the first bad one; the store keeps its objects -/
theorem loop_rt {ok : S → Prop} {g : D → Fr → S → SR} {mk : Str → D} {bad : Str → Bool} {I : Fr → Prop} {J : S → Prop} {P : Str → Prop} (hok : ∀ s, J s → ok s) (step : ∀ (y : Str) (τ : Fr) (s : S), P y → I τ → J s → ∃ τ' s', I τ' ∧ J s' ∧ g (.str y) τ s = (if bad y = true then .rt (mk y) s' else .nx τ' s')) :
    ∀ (ys : List Str) (τ : Fr) (s : S), (∀ y ∈ ys, P y) → I τ → J s → ∃ τ' s', I τ' ∧ J s' ∧ forS ok g (ys.map .str) τ s = (match ys.find? bad with | some y => .rt (mk y) s' | none => .nx τ' s')
  | [], τ, s, _, h, hj => ⟨τ, s, h, hj, by rw [List.map_nil, forS_nil (hok s hj)]; rfl⟩
  | y :: ys, τ, s, hp, h, hj => by
    obtain ⟨τ1, s1, i1, j1, e1⟩ := step y τ s (hp y (by simp)) h hj
    rw [List.map_cons, List.find?_cons]
    cases hb : bad y with
    | true =>
      rw [hb, if_pos rfl] at e1
      exact ⟨τ1, s1, i1, j1, by rw [forS_rt (hok s hj) e1]⟩
    | false =>
      rw [hb, if_neg Bool.false_ne_true] at e1
      obtain ⟨τ2, s2, i2, j2, e2⟩ := loop_rt hok step ys τ1 s1 (fun z hz => hp z (by simp [hz])) i1 j1
      exact ⟨τ2, s2, i2, j2, by rw [forS_nx (hok s hj) e1]; exact e2⟩
end SL

set_option Elab.async false
set_option linter.all false
set_option maxRecDepth 100000
set_option autoImplicit false
set_option maxHeartbeats 1000000
/-! SLo: the law's own list of refusals. -/
namespace SL
open PySem L2 G
def orRt (part : Str) (s : S) (r : SR) : Option D → SR
  | some d => .rt (.tup [.str part, d]) s
  | none => r
def AscN (ts : List (Str × D)) : Prop := ∀ p ∈ ts, Asc p.1
/-- what the law's checks want of the three dicts -/
structure Thr (s : S) (n m q : Nat) (ts ks ss : List (Str × D)) : Prop where
  hn : s[n]? = some (.dct (DK ts))
  hm : s[m]? = some (.dct (DK ks))
  hq : s[q]? = some (.dct (DK ss))
  vt : Vals s ts
  vk : Vals2 s ks
  vs : Vals2 s ss
  at_ : AscN ts
  ak : AscN ks
  as_ : AscN ss
  sk : ∀ p ∈ ks, ∀ ds, p.2 = .tup ds → ds.length < 2 ^ 20
  sv : ∀ p ∈ ss, ShT p.2
theorem Thr.gp {s s' : S} {n m q : Nat} {ts ks ss : List (Str × D)} (h : Thr s n m q ts ks ss) (g : Gp s s') : Thr s' n m q ts ks ss :=
  ⟨g _ _ h.hn, g _ _ h.hm, g _ _ h.hq, h.vt.kd g.kd, h.vk.kd g.kd, h.vs.kd g.kd, h.at_, h.ak, h.as_, h.sk, h.sv⟩
theorem ret_part {cl : CL} {τ : Fr} {s : S} {part : Str} {e : Ex} {d : D} {cs : Cms} (h : evE cl e τ s = .ok d s) : exs cl (.cons (.ret (.tup (.cons (.cst (.str part)) (.cons e .nil)))) cs) τ s = .rt (.tup [.str part, d]) s := by
  have h : (ev cl e).1 τ s = .ok d s := h
  refine exs_ret ?_
  simp only [evE, ev, evs, plainT, R.bind_ok, Cst.d, h]
theorem len_DK {s : S} {n : Nat} {ts : List (Str × D)} (h : s[n]? = some (.dct (DK ts))) : bltD .len [.ref n] s = .ok (.int ts.length) s := by
  rw [len_dct h]; simp [DK]
/-- how many there may be -/
theorem num_bad {cl : CL} {τ : Fr} {s : S} {i n : Nat} {ts : List (Str × D)} {top : Nat} (hi : τ[i]? = some (some (.ref n))) (h : s[n]? = some (.dct (DK ts))) :
    evT cl (.or (.cmp .lt (.blt .len (.cons (.var i) .nil)) (.cst (.int 1))) (.cmp .gt (.blt .len (.cons (.var i) .nil)) (.cst (.int (top : Nat))))) τ s = .ok (!decide (1 ≤ ts.length ∧ ts.length ≤ top)) s := by
  simp only [evT, ev, evs, plainT, asB, hi, R.bind_ok, len_DK h, Cst.d, cmpD, ltD]
  by_cases h1 : 1 ≤ ts.length
  · rw [decide_eq_false (by omega : ¬ (ts.length : Int) < 1), if_neg Bool.false_ne_true]
    by_cases h2 : ts.length ≤ top
    · rw [decide_eq_false (by omega), decide_eq_true ⟨h1, h2⟩]; rfl
    · rw [decide_eq_true (by omega), decide_eq_false (fun z => h2 z.2)]; rfl
  · rw [decide_eq_true (by omega : (ts.length : Int) < 1), if_pos rfl, decide_eq_false (fun z => h1 z.1)]; rfl
/-- a loop over sorted(list(d)) that hands back at the first bad name -/
theorem part_loop {cl : CL} {s : S} {i v n : Nat} {ts : List (Str × D)} {τ : Fr} {part : Str} {bad : Str → Bool} {body : Cms} {I : Fr → Prop} (hi : τ[i]? = some (some (.ref n))) (h : s[n]? = some (.dct (DK ts))) (hl : ts.length < 64) (h0 : I τ)
    (step : ∀ (y : Str) (τ : Fr) (s1 : S), y ∈ ts.map (·.1) → I τ → Gp s s1 → ∃ τ' s', I τ' ∧ Gp s1 s' ∧ forB cl (.var v) body (.str y) τ s1 = (if bad y = true then .rt (.tup [.str part, .str y]) s' else .nx τ' s')) :
    ∃ τ' s', I τ' ∧ Gp s s' ∧ ∀ cs, exs cl (.cons (.for_ (.var v) .seq (.cons (.blt .sorted (.cons (.blt .list (.cons (.var i) .nil)) .nil)) .nil) body) cs) τ s = orRt part s' (exs cl cs τ' s') (((sortT (ts.map (·.1))).find? bad).map .str) := by
  obtain ⟨l, s1, g1, e1, e2⟩ := names_of (cl := cl) hi h hl
  obtain ⟨τ', s', i', j', e3⟩ := loop_rt (ok := (Src.lst l ((sortT (ts.map (·.1))).map .str)).ok) (g := forB cl (.var v) body) (mk := fun y => .tup [.str part, .str y]) (bad := bad) (I := I) (J := fun s' => Gp s1 s') (P := fun y => y ∈ ts.map (·.1))
    (fun s' g => lstAt_of (g _ _ e1)) (fun y τ s2 hy hI hJ => by
      obtain ⟨τ2, s3, a, b, c⟩ := step y τ s2 hy hI ((Gp.of g1).trans hJ)
      exact ⟨τ2, s3, a, hJ.trans b, c⟩) (sortT (ts.map (·.1))) τ s1 (fun y hy => mem_sortT.mp hy) h0 (Gp.refl s1)
  refine ⟨τ', s', i', (Gp.of g1).trans j', fun cs => ?_⟩
  rw [exs, ex_for e2 (src := .lst l ((sortT (ts.map (·.1))).map .str)) (by simp only [srcOf, lstAt_of e1, Option.map_some])]
  show (forS _ _ ((sortT (ts.map (·.1))).map D.str) _ _).bind _ = _
  rw [e3]
  cases (sortT (ts.map (·.1))).find? bad <;> rfl
def tBody : Cms := .cons (.ite (.or (.not (.call 199 (.cons (.var 3) .nil))) (.or (.not (.call 185 (.cons (.ix (.var 0) (.var 3)) .nil))) (.or (.cmp .lt (.ix (.var 0) (.var 3)) (.cst (.int 1))) (.cmp .gt (.ix (.var 0) (.var 3)) (.cst (.int 4)))))) (.cons (.ret (.tup (.cons (.cst (.str "tables")) (.cons (.var 3) .nil)))) .nil) (.nil)) .nil
theorem part_tables {Γ : Ga} (b : BL Γ) {k : Nat} (hk : 2 ≤ k) {s : S} {n m q : Nat} {ts ks ss : List (Str × D)} (T : Thr s n m q ts ks ss) :
    ∃ x s', Gp s s' ∧ ∀ cs, exs (clF Γ k) (.cons (.ite (.or (.cmp .lt (.blt .len (.cons (.var 0) .nil)) (.cst (.int 1))) (.cmp .gt (.blt .len (.cons (.var 0) .nil)) (.cst (.int 5)))) (.cons (.ret (.tup (.cons (.cst (.str "tables")) (.cons (.cst .non) .nil)))) .nil) (.nil))
    (.cons (.for_ (.var 3) .seq (.cons (.blt .sorted (.cons (.blt .list (.cons (.var 0) .nil)) .nil)) .nil) tBody) cs)) [some (.ref n), some (.ref m), some (.ref q), none, none] s = orRt "tables" s' (exs (clF Γ k) cs [some (.ref n), some (.ref m), some (.ref q), x, none] s') (faultT ts) := by
  have hc := num_bad (cl := clF Γ k) (τ := [some (.ref n), some (.ref m), some (.ref q), none, none]) (i := 0) (top := 5) rfl T.hn
  unfold faultT
  by_cases hl : 1 ≤ ts.length ∧ ts.length ≤ 5
  · rw [decide_eq_true hl] at hc
    rw [if_pos hl]
    obtain ⟨τ', s', ⟨x, rfl⟩, g, e⟩ := part_loop (cl := clF Γ k) (τ := [some (.ref n), some (.ref m), some (.ref q), none, none]) (i := 0) (v := 3) (part := "tables") (bad := badT ts) (body := tBody) (I := fun τ => ∃ x, τ = [some (.ref n), some (.ref m), some (.ref q), x, none]) rfl T.hn T.vt.1 ⟨_, rfl⟩
      (fun y τ s1 hy ⟨x, hτ⟩ g1 => by
        subst hτ
        obtain ⟨d, hd, hmem⟩ := getK_mem hy
        obtain ⟨hz, hp0⟩ := T.vt.2 _ hmem
        have hp := hp0.kd g1.kd
        obtain ⟨s2, g2, w⟩ := l_word b (k := k) (by omega) (s := s1) (d := .str y) trivial (fun z e => by cases e; exact ⟨hz, T.at_ _ hmem⟩)
        have i1 := l_integer b (k := k) (by omega) (hp.kd g2.kd)
        have ix := ix_dct (g2 _ _ (g1 _ _ T.hn)) (x := y) (by rw [getK_DK]; exact hd)
        have eb : badT ts y = !(wordB y && widB d) := by simp only [badT, hd]
        refine ⟨[some (.ref n), some (.ref m), some (.ref q), some (.str y), none], s2, ⟨_, rfl⟩, g2, ?_⟩
        have c1 : evT (clF Γ k) (.or (.not (.call 199 (.cons (.var 3) .nil))) (.or (.not (.call 185 (.cons (.ix (.var 0) (.var 3)) .nil))) (.or (.cmp .lt (.ix (.var 0) (.var 3)) (.cst (.int 1))) (.cmp .gt (.ix (.var 0) (.var 3)) (.cst (.int 4)))))) [some (.ref n), some (.ref m), some (.ref q), some (.str y), none] s1 = .ok (!(wordB y && widB d)) s2 := by
          simp only [evT, ev, evs, plainT, asB, List.getElem?_cons_zero, List.getElem?_cons_succ, R.bind_ok, w, truD, isWordD]
          cases wordB y with
          | false => rfl
          | true =>
            simp only [Bool.not_true, Bool.false_eq_true, if_false, ix, i1, R.bind_ok, truD, Bool.true_and]
            cases d <;> first
              | rfl
              | (rename_i w
                 simp only [intOf, Bool.not_true, Bool.false_eq_true, if_false, Cst.d, R.bind_ok, cmpD, ltD, widB]
                 by_cases q : w < 1
                 · rw [decide_eq_true q, if_pos rfl, decide_eq_false (by omega : ¬ 1 ≤ w)]; rfl
                 · rw [decide_eq_false q, if_neg Bool.false_ne_true, decide_eq_true (by omega : 1 ≤ w), Bool.true_and]
                   simp only [ix, R.bind_ok]
                   by_cases q2 : w ≤ 4
                   · rw [decide_eq_true q2, decide_eq_false (by omega)]; rfl
                   · rw [decide_eq_false q2, decide_eq_true (by omega)]; rfl)
        rw [forB_var, eb]
        show exs _ _ [some (.ref n), some (.ref m), some (.ref q), some (.str y), none] s1 = _
        cases hq : wordB y && widB d with
        | true => rw [hq] at c1; exact (exs_skip c1).trans rfl
        | false => rw [hq] at c1; exact exs_in c1 (ret_part rfl))
    exact ⟨x, s', g, fun cs => (exs_skip hc).trans (e cs)⟩
  · rw [decide_eq_false hl] at hc
    rw [if_neg hl]
    exact ⟨none, s, Gp.refl s, fun cs => exs_in hc (ret_part rfl)⟩
theorem colsB_len {w : Int} : ∀ {ds : List D} {l : Int}, colsB l w ds = true → l < w → (ds.length : Int) ≤ w - l - 1
  | [], l, _, h => by simp; omega
  | d :: ds, l, h, hl => by
    cases d <;> first
      | (cases h; done)
      | (rename_i c
         simp only [colsB, Bool.and_eq_true, decide_eq_true_eq] at h
         have := colsB_len h.2 h.1.2
         simp only [List.length_cons]
         omega)
def kBody : Cms := .cons (.ite (.or (.cmp .nin (.var 3) (.var 0)) (.not (.call 170 (.cons (.ix (.var 1) (.var 3)) (.cons (.ix (.var 0) (.var 3)) .nil))))) (.cons (.ret (.tup (.cons (.cst (.str "keys")) (.cons (.var 3) .nil)))) .nil) (.nil))
    (.cons (.ite (.or (.cmp .eq (.blt .len (.cons (.ix (.var 1) (.var 3)) .nil)) (.cst (.int 0))) (.cmp .eq (.blt .len (.cons (.ix (.var 1) (.var 3)) .nil)) (.ix (.var 0) (.var 3)))) (.cons (.ret (.tup (.cons (.cst (.str "keys")) (.cons (.var 3) .nil)))) .nil) (.nil)) .nil)
theorem part_keys {Γ : Ga} (b : BL Γ) {k : Nat} (hk : 2 ≤ k) {s : S} {n m q : Nat} {ts ks ss : List (Str × D)} (T : Thr s n m q ts ks ss) (ht : TOk ts) (x0 : Option D) :
    ∃ x s', Gp s s' ∧ ∀ cs, exs (clF Γ k) (.cons (.for_ (.var 3) .seq (.cons (.blt .sorted (.cons (.blt .list (.cons (.var 1) .nil)) .nil)) .nil) kBody) cs) [some (.ref n), some (.ref m), some (.ref q), x0, none] s = orRt "keys" s' (exs (clF Γ k) cs [some (.ref n), some (.ref m), some (.ref q), x, none] s') (faultK ts ks) := by
  obtain ⟨τ', s', ⟨x, rfl⟩, g, e⟩ := part_loop (cl := clF Γ k) (τ := [some (.ref n), some (.ref m), some (.ref q), x0, none]) (i := 1) (v := 3) (part := "keys") (bad := badK ts ks) (body := kBody) (I := fun τ => ∃ x, τ = [some (.ref n), some (.ref m), some (.ref q), x, none]) rfl T.hm T.vk.1 ⟨_, rfl⟩
    (fun y τ s1 hy ⟨x, hτ⟩ g1 => by
      subst hτ
      obtain ⟨d, hd, hmem⟩ := getK_mem hy
      obtain ⟨hz, hp⟩ := T.vk.2 _ hmem
      have hp := hp.kd g1.kd
      have hn1 := g1 _ _ T.hn
      have hm1 := g1 _ _ T.hm
      refine ⟨[some (.ref n), some (.ref m), some (.ref q), some (.str y), none], s1, ⟨_, rfl⟩, Gp.refl s1, ?_⟩
      rw [forB_var]
      show exs _ _ [some (.ref n), some (.ref m), some (.ref q), some (.str y), none] s1 = _
      have ik := ix_dct hm1 (x := y) (by rw [getK_DK]; exact hd)
      have nn := nin_dct (x := y) hn1
      rw [getK_DK] at nn
      cases ht' : getK ts y with
      | none =>
        have eb : badK ts ks y = true := by simp only [badK, ht', Bool.not_false]
        rw [eb, if_pos rfl]
        refine exs_in (s' := s1) ?_ (ret_part rfl)
        simp only [evT, ev, evs, plainT, asB, List.getElem?_cons_zero, List.getElem?_cons_succ, R.bind_ok, nn, ht', Option.isSome_none, Bool.not_false, if_true]
      | some v =>
        obtain ⟨w, rfl⟩ := ht _ _ ht'
        have it := ix_dct hn1 (x := y) (by rw [getK_DK]; exact ht')
        have ic := l_columns b (k := k) hk hp.1 (w := w) (fun ds e => ⟨Nat.lt_trans (T.sk _ hmem ds e) (by decide), fun z hz => (hp.2 ds e z hz).1⟩)
        have c1 : evT (clF Γ k) (.or (.cmp .nin (.var 3) (.var 0)) (.not (.call 170 (.cons (.ix (.var 1) (.var 3)) (.cons (.ix (.var 0) (.var 3)) .nil))))) [some (.ref n), some (.ref m), some (.ref q), some (.str y), none] s1 = .ok (!isColsD d w) s1 := by
          simp only [evT, ev, evs, plainT, asB, List.getElem?_cons_zero, List.getElem?_cons_succ, R.bind_ok, nn, ht', Option.isSome_some, Bool.not_true, Bool.false_eq_true, if_false, ik, it, ic, truD]
        have eb : badK ts ks y = !keyB w d := by simp only [badK, ht', hd]
        rw [eb]
        cases hq : isColsD d w with
        | false =>
          have : keyB w d = false := by
            clear hp hmem hd ik ic c1 eb
            cases d <;> first
              | rfl
              | (simp only [isColsD] at hq; simp only [keyB, hq, Bool.false_and])
          rw [this]
          rw [hq] at c1
          exact exs_in c1 (ret_part rfl)
        | true =>
          rw [hq] at c1
          refine (exs_skip c1).trans ?_
          obtain ⟨ds, rfl, hq3⟩ : ∃ ds, d = .tup ds ∧ colsB (-1) w ds = true := by
            clear hp hmem hd ik ic c1 eb
            cases d <;> first
              | (cases hq; done)
              | exact ⟨_, rfl, hq⟩
          have c2 : evT (clF Γ k) (.or (.cmp .eq (.blt .len (.cons (.ix (.var 1) (.var 3)) .nil)) (.cst (.int 0))) (.cmp .eq (.blt .len (.cons (.ix (.var 1) (.var 3)) .nil)) (.ix (.var 0) (.var 3)))) [some (.ref n), some (.ref m), some (.ref q), some (.str y), none] s1 = .ok (((ds.length : Int) == 0) || ((ds.length : Int) == w)) s1 := by
            simp only [evT, ev, evs, plainT, asB, List.getElem?_cons_zero, List.getElem?_cons_succ, R.bind_ok, ik, it, lenT, Cst.d, eqI]
            cases ((ds.length : Int) == 0) <;> rfl
          have e : keyB w (.tup ds) = !(((ds.length : Int) == 0) || ((ds.length : Int) == w)) := by
            show (colsB (-1) w ds && _) = _
            rw [hq3, Bool.true_and]
            rw [Bool.eq_iff_iff]
            simp only [Bool.and_eq_true, decide_eq_true_eq, Bool.not_eq_true', Bool.or_eq_false_iff, beq_eq_false_iff_ne, ne_eq]
            constructor
            · rintro ⟨h1, h2⟩
              exact ⟨by omega, by omega⟩
            · rintro ⟨h1, h2⟩
              have hw : -1 < w := by
                cases ds with
                | nil => simp at h1
                | cons c ds =>
                  clear hp hmem hd ik ic c1 eb c2 hq
                  cases c <;> first
                    | (cases hq3; done)
                    | (simp only [colsB, Bool.and_eq_true, decide_eq_true_eq] at hq3; omega)
              have := colsB_len hq3 hw
              exact ⟨by omega, by omega⟩
          rw [e]
          cases hq2 : ((ds.length : Int) == 0) || ((ds.length : Int) == w) with
          | true => rw [hq2] at c2; exact exs_in c2 (ret_part rfl)
          | false => rw [hq2] at c2; exact (exs_skip c2).trans rfl)
  exact ⟨x, s', g, e⟩
def sBody : Cms := .cons (.ite (.or (.not (.call 199 (.cons (.var 3) .nil))) (.not (.call 172 (.cons (.var 0) (.cons (.ix (.var 2) (.var 3)) .nil))))) (.cons (.ret (.tup (.cons (.cst (.str "services")) (.cons (.var 3) .nil)))) .nil) (.nil)) .nil
theorem part_services {Γ : Ga} (b : BL Γ) {k : Nat} (hk : 3 ≤ k) {s : S} {n m q : Nat} {ts ks ss : List (Str × D)} (T : Thr s n m q ts ks ss) (ht : TOk ts) (hw : WOk ts) (x0 : Option D) :
    ∃ x s', Gp s s' ∧ ∀ cs, exs (clF Γ k) (.cons (.ite (.or (.cmp .lt (.blt .len (.cons (.var 2) .nil)) (.cst (.int 1))) (.cmp .gt (.blt .len (.cons (.var 2) .nil)) (.cst (.int 8)))) (.cons (.ret (.tup (.cons (.cst (.str "services")) (.cons (.cst .non) .nil)))) .nil) (.nil))
    (.cons (.for_ (.var 3) .seq (.cons (.blt .sorted (.cons (.blt .list (.cons (.var 2) .nil)) .nil)) .nil) sBody) cs)) [some (.ref n), some (.ref m), some (.ref q), x0, none] s = orRt "services" s' (exs (clF Γ k) cs [some (.ref n), some (.ref m), some (.ref q), x, none] s') (faultS ts ss) := by
  have hc := num_bad (cl := clF Γ k) (τ := [some (.ref n), some (.ref m), some (.ref q), x0, none]) (i := 2) (top := 8) rfl T.hq
  unfold faultS
  by_cases hl : 1 ≤ ss.length ∧ ss.length ≤ 8
  · rw [decide_eq_true hl] at hc
    rw [if_pos hl]
    obtain ⟨τ', s', ⟨x, rfl⟩, g, e⟩ := part_loop (cl := clF Γ k) (τ := [some (.ref n), some (.ref m), some (.ref q), x0, none]) (i := 2) (v := 3) (part := "services") (bad := badS ts ss) (body := sBody) (I := fun τ => ∃ x, τ = [some (.ref n), some (.ref m), some (.ref q), x, none]) rfl T.hq T.vs.1 ⟨_, rfl⟩
      (fun y τ s1 hy ⟨x, hτ⟩ g1 => by
        subst hτ
        obtain ⟨d, hd, hmem⟩ := getK_mem hy
        obtain ⟨hz, hp⟩ := T.vs.2 _ hmem
        obtain ⟨s2, g2, w⟩ := l_word b (k := k) (by omega) (s := s1) (d := .str y) trivial (fun z e => by cases e; exact ⟨hz, T.as_ _ hmem⟩)
        have v1 := l_service b (k := k) hk (g2 _ _ (g1 _ _ T.hn)) ht hw (hp.kd (g1.trans g2).kd) (T.sv _ hmem)
        have ix := ix_dct (g2 _ _ (g1 _ _ T.hq)) (x := y) (by rw [getK_DK]; exact hd)
        refine ⟨[some (.ref n), some (.ref m), some (.ref q), some (.str y), none], s2, ⟨_, rfl⟩, g2, ?_⟩
        have c1 : evT (clF Γ k) (.or (.not (.call 199 (.cons (.var 3) .nil))) (.not (.call 172 (.cons (.var 0) (.cons (.ix (.var 2) (.var 3)) .nil))))) [some (.ref n), some (.ref m), some (.ref q), some (.str y), none] s1 = .ok (badS ts ss y) s2 := by
          have eb : badS ts ss y = !(wordB y && isServD (DK ts) d) := by simp only [badS, hd]
          rw [eb]
          simp only [evT, ev, evs, plainT, asB, List.getElem?_cons_zero, List.getElem?_cons_succ, R.bind_ok, w, truD, isWordD]
          cases wordB y with
          | false => rfl
          | true => simp only [Bool.not_true, Bool.false_eq_true, if_false, ix, R.bind_ok, v1, truD, Bool.true_and]
        rw [forB_var]
        show exs _ _ [some (.ref n), some (.ref m), some (.ref q), some (.str y), none] s1 = _
        cases hq : badS ts ss y with
        | false => rw [hq] at c1; exact (exs_skip c1).trans rfl
        | true => rw [hq] at c1; exact exs_in c1 (ret_part rfl))
    exact ⟨x, s', g, fun cs => (exs_skip hc).trans (e cs)⟩
  · rw [decide_eq_false hl] at hc
    rw [if_neg hl]
    exact ⟨x0, s, Gp.refl s, fun cs => exs_in hc (ret_part rfl)⟩
end SL

set_option Elab.async false
set_option linter.all false
set_option maxRecDepth 100000
set_option autoImplicit false
set_option maxHeartbeats 1000000
/-! SLp: the law's own list of refusals, whole. -/
namespace SL
open PySem L2 G
theorem str_inj_eqv {x y : Str} : PyData.eqv (.str y) (.str x) = decide (x = y) := by
  by_cases h : x = y
  · subst h; simp [PyData.eqv]
  · have : ¬ y = x := fun e => h e.symm
    simp [PyData.eqv, h, this]
/-- x in a list of texts -/
theorem inn_strs {s : S} {f : Nat} {x : Str} {ys : List Str} (h : s[f]? = some (.lst (ys.map .str))) (hx : Asc x) (hy : ∀ y ∈ ys, Asc y) : cmpD .inn (.str x) (.ref f) s = .ok (decide (x ∈ ys)) s := by
  have e : inD (.str x) (.ref f) s = R.ok (decide (x ∈ ys)) s := by
    simp only [inD, h]
    simp only [toP_ref h, toPs_strs, Option.map_some, toP]
    rw [if_pos ⟨shp_fl (d := .str x) hx, shaped_strs hy⟩]
    congr 1
    rw [Bool.eq_iff_iff, List.any_eq_true]
    constructor
    · rintro ⟨z, hz, e⟩
      obtain ⟨y, hy, rfl⟩ := List.mem_map.mp hz
      rw [str_inj_eqv] at e
      rw [decide_eq_true_eq] at e ⊢
      exact e ▸ hy
    · intro e
      exact ⟨.str x, List.mem_map.mpr ⟨x, of_decide_eq_true e, rfl⟩, by rw [str_inj_eqv]; simp⟩
  exact e
theorem Grx.kd {i : Nat} {s s' : S} (h : Grx i s s') {o o' : O} (h1 : s[i]? = some o) (h2 : s'[i]? = some o') (e : kndO o' = kndO o) : Kd s s' := fun j p hj => by
  by_cases q : j = i
  · subst q
    rw [h1] at hj
    cases hj
    exact ⟨o', h2, e⟩
  · exact ⟨p, h j p q hj, rfl⟩
theorem append_lst {s : S} {f : Nat} {ds : List D} {d : D} (h : s[f]? = some (.lst ds)) (hl : ds.length < 10000) : mtD .lappend (.ref f) [d] s = .ok .non (s.set f (.lst (ds ++ [d]))) := by
  simp only [mtD, h]
  rw [if_pos (by rw [sizeLine_eq]; omega)]
def cBody : Cms := .cons (.ite (.not (.call 198 (.cons (.var 0) (.cons (.var 1) (.cons (.ix (.var 2) (.var 3)) .nil))))) (.cons (.ite (.cmp .inn (.ix (.ix (.var 2) (.var 3)) (.cst (.int 0))) (.var 4)) (.cons (.ret (.tup (.cons (.cst (.str "capped")) (.cons (.var 3) .nil)))) .nil) (.nil))
    (.cons (.expr (.meth .append (.var 4) (.cons (.ix (.ix (.var 2) (.var 3)) (.cst (.int 0))) .nil))) .nil)) (.nil)) .nil
theorem wordB_asc {x : Str} (h : wordB x = true) : Asc x := by
  unfold wordB at h
  rw [Bool.and_eq_true] at h
  intro c hc
  have := List.all_eq_true.mp h.2 c hc
  have := mem_letters.mp (of_decide_eq_true this)
  omega
theorem cap_law {Γ : Ga} (b : BL Γ) {k : Nat} (hk : 1 ≤ k) {s : S} {n m q f : Nat} {ts ks ss : List (Str × D)} {ok : S → Prop} (hok : ∀ s', Grx f s s' → ok s') (nf : n ≠ f) (mf : m ≠ f) (qf : q ≠ f)
    (hn : s[n]? = some (.dct (DK ts))) (hm : s[m]? = some (.dct (DK ks))) (hq : s[q]? = some (.dct (DK ss))) (ht : KOk ts ks) (hw : WOk ts) (hl : ∀ x cs, getK ks x = some (.tup cs) → cs.length < 2 ^ 20) :
    ∀ (ys : List Str) (W C : List (Str × D)) (x : Option D) (s1 : S), (∀ y ∈ ys, ∃ d, getK ss y = some d ∧ isServD (DK ts) d = true) → C.length + ys.length < 64 → (∀ p ∈ C, Asc p.1) → Grx f s s1 → s1[f]? = some (.lst ((C.map (·.1)).map .str)) →
    ∃ x' s2, Grx f s s2 ∧ (∃ l, s2[f]? = some (.lst l)) ∧ forS ok (forB (clF Γ k) (.var 3) cBody) (ys.map .str) [some (.ref n), some (.ref m), some (.ref q), x, some (.ref f)] s1
      = (match (capL ts ks ss ys W C).1 with | some y => .rt (.tup [.str "capped", .str y]) s2 | none => .nx [some (.ref n), some (.ref m), some (.ref q), x', some (.ref f)] s2)
  | [], W, C, x, s1, _, _, _, g, hf => ⟨x, s1, g, ⟨_, hf⟩, by rw [List.map_nil, forS_nil (hok s1 g)]; rfl⟩
  | y :: ys, W, C, x, s1, hv, hlen, hC, g, hf => by
    obtain ⟨d, hd, hs⟩ := hv y (by simp)
    obtain ⟨t, gg, c, w, rfl, t1, t2, t3⟩ := serv_shape hs
    rw [List.length_cons] at hlen
    have nn := g _ _ nf hn
    have mm := g _ _ mf hm
    have qq := g _ _ qf hq
    have ik := ix_dct qq (x := y) (by rw [getK_DK]; exact hd)
    obtain ⟨s2, g2, wh⟩ := l_whole b.toBW hk nn mm ht ⟨t, gg, c, w, rfl, t1, t2⟩ hl
    have at_ : Asc t := wordB_asc (hw _ _ t1)
    have gs2 : Grx f s s2 := fun j o hj e => g2 _ _ (g j o hj e)
    have hf2 := g2 _ _ hf
    have ik2 := ix_dct (g2 _ _ qq) (x := y) (by rw [getK_DK]; exact hd)
    have hcond : evT (clF Γ k) (.not (.call 198 (.cons (.var 0) (.cons (.var 1) (.cons (.ix (.var 2) (.var 3)) .nil))))) [some (.ref n), some (.ref m), some (.ref q), some (.str y), some (.ref f)] s1 = .ok (!wholeB ts ks (.tup [.str t, .tup gg, c])) s2 := by
      simp only [evT, ev, evs, plainT, asB, List.getElem?_cons_zero, List.getElem?_cons_succ, R.bind_ok, ik, wh, truD]
    rw [List.map_cons]
    have hcap : capL ts ks ss (y :: ys) W C = if wholeB ts ks (.tup [.str t, .tup gg, c]) = true then capL ts ks ss ys (W ++ [(y, .bl true)]) C
      else if t ∈ C.map (·.1) then (some y, W ++ [(y, .bl false)], C)
      else capL ts ks ss ys (W ++ [(y, .bl false)]) (C ++ [(t, .str y)]) := by simp only [capL, hd, Option.getD_some, tabS]
    rw [hcap]
    cases hwh : wholeB ts ks (.tup [.str t, .tup gg, c]) with
    | true =>
      rw [hwh] at hcond
      obtain ⟨x', s3, a1, a2, e⟩ := cap_law b hk hok nf mf qf hn hm hq ht hw hl ys (W ++ [(y, .bl true)]) C (some (.str y)) s2 (fun y' h => hv y' (by simp [h])) (by omega) hC gs2 hf2
      refine ⟨x', s3, a1, a2, ?_⟩
      rw [if_pos rfl, ← e]
      refine forS_nx (hok s1 g) ?_
      rw [forB_var]
      exact (exs_skip hcond).trans rfl
    | false =>
      rw [hwh] at hcond
      rw [if_neg Bool.false_ne_true]
      have i0 : ixD (.tup [.str t, .tup gg, c]) (.int 0) s2 = .ok (.str t) s2 := rfl
      have ii := inn_strs hf2 at_ (fun z hz => by
        obtain ⟨p, hp, rfl⟩ := List.mem_map.mp hz
        exact hC p hp)
      have hin : evT (clF Γ k) (.cmp .inn (.ix (.ix (.var 2) (.var 3)) (.cst (.int 0))) (.var 4)) [some (.ref n), some (.ref m), some (.ref q), some (.str y), some (.ref f)] s2 = .ok (decide (t ∈ C.map (·.1))) s2 := by
        simp only [evT, ev, evs, plainT, asB, List.getElem?_cons_zero, List.getElem?_cons_succ, R.bind_ok, ik2, Cst.d, i0, ii]
      by_cases hmem : t ∈ C.map (·.1)
      · rw [if_pos hmem]
        rw [decide_eq_true hmem] at hin
        refine ⟨none, s2, gs2, ⟨_, hf2⟩, ?_⟩
        refine forS_rt (hok s1 g) ?_
        rw [forB_var]
        exact exs_in hcond (exs_in hin (ret_part rfl))
      · rw [if_neg hmem]
        rw [decide_eq_false hmem] at hin
        have ap := append_lst (d := .str t) hf2 (by rw [List.length_map, List.length_map]; omega)
        have hms : mSel .append (.ref f) s2 = some .lappend := by simp only [mSel, hf2]; rfl
        have lf := (List.getElem?_eq_some_iff.mp hf2).1
        obtain ⟨x', s3, a1, a2, e⟩ := cap_law b hk hok nf mf qf hn hm hq ht hw hl ys (W ++ [(y, .bl false)]) (C ++ [(t, .str y)]) (some (.str y)) (s2.set f (.lst (((C.map (·.1)).map .str) ++ [.str t]))) (fun y' h => hv y' (by simp [h])) (by simp; omega) (fun p hp => by
            rcases List.mem_append.mp hp with h | h
            · exact hC p h
            · simp at h; subst h; exact at_) (gs2.trans Grx.set) (by rw [set_get lf]; simp)
        refine ⟨x', s3, a1, a2, ?_⟩
        rw [← e]
        refine forS_nx (hok s1 g) ?_
        rw [forB_var]
        refine exs_nx ((ite_t hcond).trans ((exs_skip hin).trans ((exs_expr (d := .non) (s' := s2.set f (.lst (((C.map (·.1)).map .str) ++ [.str t]))) ?_).trans rfl)))
        simp only [evE, ev, evs, plainT, asB, List.set_cons_succ, List.set_cons_zero, List.getElem?_cons_zero, List.getElem?_cons_succ, R.bind_ok, hms, ik2, Cst.d, i0, ap]
def c159 : Cms := .cons (.asg (.loc (.var 4)) (.lst .nil)) (.cons (.for_ (.var 3) .seq (.cons (.blt .sorted (.cons (.blt .list (.cons (.var 2) .nil)) .nil)) .nil) cBody) (.cons (.ret (.cst .non)) .nil))
def s159 : Cms := .cons (.ite (.or (.cmp .lt (.blt .len (.cons (.var 2) .nil)) (.cst (.int 1))) (.cmp .gt (.blt .len (.cons (.var 2) .nil)) (.cst (.int 8)))) (.cons (.ret (.tup (.cons (.cst (.str "services")) (.cons (.cst .non) .nil)))) .nil) (.nil))
    (.cons (.for_ (.var 3) .seq (.cons (.blt .sorted (.cons (.blt .list (.cons (.var 2) .nil)) .nil)) .nil) sBody) c159)
def k159 : Cms := .cons (.for_ (.var 3) .seq (.cons (.blt .sorted (.cons (.blt .list (.cons (.var 1) .nil)) .nil)) .nil) kBody) s159
def faultD : Option (Str × D) → D
  | none => .non
  | some p => .tup [.str p.1, p.2]
theorem l_fault {Γ : Ga} (b : BL Γ) {k : Nat} (hk : 4 ≤ k) {s : S} {n m q : Nat} {ts ks ss : List (Str × D)} (T : Thr s n m q ts ks ss) :
    ∃ s', Gp s s' ∧ (clF Γ k).call 159 [.ref n, .ref m, .ref q] s = .ok (faultD (sfault ts ks ss)) s' := by
  obtain ⟨j, rfl, hj⟩ := lv hk
  obtain ⟨x1, s1, g1, e1⟩ := part_tables b (k := j) (by omega) T
  have start : ∀ {d s'}, exs (clF Γ j) b159 [some (.ref n), some (.ref m), some (.ref q), none, none] s = .rt d s' → (clF Γ (j + 1)).call 159 [.ref n, .ref m, .ref q] s = .ok d s' := fun h => call_rt b.h159 rfl rfl h
  unfold sfault
  have e1 : exs (clF Γ j) b159 [some (.ref n), some (.ref m), some (.ref q), none, none] s = _ := e1 k159
  cases f1 : faultT ts with
  | some d =>
    rw [f1] at e1
    exact ⟨s1, g1, start e1⟩
  | none =>
    rw [f1] at e1
    have tok := tok_of f1
    have wok := wok_of f1
    obtain ⟨x2, s2, g2, e2⟩ := part_keys b (k := j) (by omega) (T.gp g1) tok x1
    have e12 := e1.trans (e2 s159)
    have G2 := g1.trans g2
    cases f2 : faultK ts ks with
    | some d =>
      rw [f2] at e12
      exact ⟨s2, G2, start e12⟩
    | none =>
      rw [f2] at e12
      have kok := kok_of tok f2
      obtain ⟨x3, s3, g3, e3⟩ := part_services b (k := j) (by omega) (T.gp G2) tok wok x2
      have e13 := e12.trans (e3 c159)
      have G3 := G2.trans g3
      cases f3 : faultS ts ss with
      | some d =>
        rw [f3] at e13
        exact ⟨s3, G3, start e13⟩
      | none =>
        rw [f3] at e13
        have g4 := Gp.new s3 (.lst [])
        have hq4 := g4 _ _ (G3 _ _ T.hq)
        obtain ⟨l, s5, g5, e5, r5⟩ := names_of (cl := clF Γ j) (τ := [some (.ref n), some (.ref m), some (.ref q), x3, some (.ref s3.length)]) (i := 2) rfl hq4 T.vs.1
        have g5 := Gp.of g5
        have f5 : s5[s3.length]? = some (.lst []) := g5 _ _ new_at
        have ne : ∀ {x : Nat} {o : O}, s3[x]? = some o → x ≠ s3.length := fun h => by
          have := (List.getElem?_eq_some_iff.mp h).1
          omega
        have hn3 := G3 _ _ T.hn
        have hm3 := G3 _ _ T.hm
        have hq3 := G3 _ _ T.hq
        have b1 := g4.trans g5
        have hlf : l ≠ s3.length := fun e => by
          rw [e, f5] at e5
          injection e5 with e5
          injection e5 with e5
          have := congrArg List.length e5
          rw [List.length_map, sortT_len, List.length_map] at this
          unfold faultS at f3
          split at f3
          · rename_i q; rw [← this] at q; simp at q
          · cases f3
        obtain ⟨x', s6, a1, a2, lp⟩ := cap_law b (k := j) (by omega) (ok := (Src.lst l ((nm ss).map .str)).ok) (s := s5) (f := s3.length) (fun s' g => lstAt_of (g _ _ hlf e5)) (ne hn3) (ne hm3) (ne hq3) (b1 _ _ hn3) (b1 _ _ hm3) (b1 _ _ hq3) kok wok
          (fun x cs e => T.sk (x, .tup cs) (by
            obtain ⟨d, h1, h2⟩ := getK_mem (mem_of_getK e)
            rw [e] at h1
            cases h1
            exact h2) cs rfl)
          (nm ss) [] [] x3 s5 (serv_of f3) (by
            show 0 + (sortT (ss.map (·.1))).length < 64
            rw [sortT_len, List.length_map, Nat.zero_add]
            exact T.vs.1) (by simp) (fun _ _ _ e => e) f5
        have GG : Gp s s6 := fun jj o e => a1 _ _ (ne (G3 _ _ e)) (b1 _ _ (G3 _ _ e))
        refine ⟨s6, GG, start (e13.trans ?_)⟩
        show exs (clF Γ j) c159 _ s3 = _
        unfold c159
        refine (exs_asg (d := .ref s3.length) (s' := s3 ++ [.lst []]) rfl).trans ?_
        show exs _ _ [some (.ref n), some (.ref m), some (.ref q), x3, some (.ref s3.length)] _ = _
        rw [exs]
        refine (congrArg (fun r : SR => r.bind fun τ s => exs (clF Γ j) (.cons (.ret (.cst .non)) .nil) τ s) ((ex_for (t := .var 3) (k := .seq) (body := cBody) r5 (src := .lst l ((nm ss).map .str)) (by simp only [srcOf, lstAt_of e5, Option.map_some]; rfl)).trans lp)).trans ?_
        cases (capL ts ks ss (nm ss) [] []).1 <;> rfl
end SL

set_option Elab.async false
set_option linter.all false
set_option maxRecDepth 100000
set_option autoImplicit false
set_option maxHeartbeats 1000000
/-! SLq: data compared with themselves; a schema made, and its properties. -/
namespace SL
open PySem L2 G
/-- data that a comparison takes -/
def dataD : Nat → D → Prop
  | _, .non => True
  | _, .bl _ => True
  | _, .int _ => True
  | _, .str x => Asc x
  | 0, .tup _ => False
  | k + 1, .tup ds => ∀ z ∈ ds, dataD k z
  | _, .flst _ => False
  | _, .ref _ => False
theorem data_fl {k : Nat} {d : D} (h : FlA d) : dataD k d := by
  cases d <;> first
    | (cases h; done)
    | (cases k <;> simp only [dataD] <;> exact h)
    | (cases k <;> simp only [dataD])
theorem toPs_all {m k : Nat} : ∀ {ds : List D}, (∀ z ∈ ds, ∃ p, (∀ m' s, k ≤ m' → toP m' s z = some p) ∧ PyData.canLay0 p = true ∧ PyData.depth p ≤ k) → ∃ ps, (∀ m' s, k ≤ m' → toPs m' s ds = some ps) ∧ PyData.canLayAll0 ps = true ∧ PyData.depthAll ps ≤ k
  | [], _ => ⟨[], fun _ _ _ => by simp [toPs], by simp [PyData.canLayAll0], by simp [PyData.depthAll]⟩
  | d :: ds, h => by
    obtain ⟨p, p1, p2, p3⟩ := h d (by simp)
    obtain ⟨ps, q1, q2, q3⟩ := toPs_all (m := m) (ds := ds) fun z hz => h z (by simp [hz])
    refine ⟨p :: ps, fun m' s hm => by simp only [toPs, p1 m' s hm, q1 m' s hm], by simp only [PyData.canLayAll0, p2, q2, Bool.and_self], ?_⟩
    simp only [PyData.depthAll]
    omega
theorem toP_data : ∀ {k : Nat} {d : D}, dataD k d → ∃ p, (∀ m s, k ≤ m → toP m s d = some p) ∧ PyData.canLay0 p = true ∧ PyData.depth p ≤ k
  | k, .non, _ => ⟨.none, fun m _ _ => by cases m <;> simp only [toP], rfl, by simp [PyData.depth]⟩
  | k, .bl b, _ => ⟨.bool b, fun m _ _ => by cases m <;> simp only [toP], rfl, by simp [PyData.depth]⟩
  | k, .int i, _ => ⟨.int i, fun m _ _ => by cases m <;> simp only [toP], rfl, by simp [PyData.depth]⟩
  | k, .str x, h => ⟨.str x, fun m _ _ => by cases m <;> simp only [toP], asc_ok (by cases k <;> exact h), by simp [PyData.depth]⟩
  | 0, .tup ds, h => by simp only [dataD] at h
  | k + 1, .tup ds, h => by
    simp only [dataD] at h
    obtain ⟨ps, q1, q2, q3⟩ := toPs_all (m := 0) (k := k) fun z hz => toP_data (h z hz)
    refine ⟨.tuple ps, fun m s hm => ?_, by simp only [PyData.canLay0, q2], by simp only [PyData.depth]; omega⟩
    obtain ⟨m, rfl⟩ : ∃ j, m = j + 1 := ⟨m - 1, by omega⟩
    simp only [toP, q1 m s (by omega), Option.map_some]
  | k, .flst _, h => by cases k <;> simp only [dataD] at h
  | k, .ref _, h => by cases k <;> simp only [dataD] at h
theorem eqP_self {k : Nat} {d : D} {s : S} (hk : k ≤ 59) (h : dataD k d) : eqP d d s = .ok true s := by
  obtain ⟨p, h1, h2, h3⟩ := toP_data h
  have sh : SeqAt.shaped p = true := by
    unfold SeqAt.shaped
    simp only [h2, Bool.true_and, decide_eq_true_eq]
    omega
  simp only [eqP, h1 60 s (by omega)]
  rw [if_pos ⟨sh, sh⟩, SeqAt.eqv_refl p h2]
theorem eqD_self {k : Nat} {d : D} {s : S} (hk : k ≤ 59) (h : dataD k d) : eqD d d s = .ok true s := by
  have e : eqD d d s = eqP d d s := by
    cases d <;> first
      | rfl
      | (cases k <;> simp only [dataD] at h)
  rw [e]; exact eqP_self hk h
/-! ### dicts compared -/
theorem eqHits_all {ls : List (Key × D)} {s : S} : ∀ (ks : List (Key × D)), (∀ p ∈ ks, ∃ u, getK ls p.1 = some u ∧ eqP p.2 u s = .ok true s) → eqHits ls s ks = .ok true s
  | [], _ => rfl
  | (k, v) :: r, h => by
    obtain ⟨u, h1, h2⟩ := h (k, v) (by simp)
    simp only [eqHits, h1, h2, R.bind_ok, eqHits_all r fun p hp => h p (by simp [hp])]
    rfl
theorem eq_srt {s : S} {m n : Nat} {ts : List (Str × D)} {k : Nat} (hk : k ≤ 59) (h1 : s[m]? = some (.dct (DK (srt ts)))) (h2 : s[n]? = some (.dct (DK ts))) (hd : ∀ x d, getK ts x = some d → dataD k d) : eqD (.ref m) (.ref n) s = .ok true s := by
  simp only [eqD, h1, h2, eqK]
  rw [if_pos (by unfold DK srt; simp only [List.length_map, sortT_len])]
  refine eqHits_all _ fun p hp => ?_
  obtain ⟨q, hq, rfl⟩ := List.mem_map.mp hp
  obtain ⟨x, hx, rfl⟩ := List.mem_map.mp hq
  obtain ⟨d, h3, _⟩ := getK_mem (mem_sortT.mp hx)
  refine ⟨d, by rw [getK_DK]; exact h3, ?_⟩
  simp only [h3, Option.getD_some]
  exact eqP_self hk (hd x d h3)
/-! ### a schema made -/
structure BP (Γ : Ga) : Prop extends BW Γ where
  h83 : Γ.fns.lookup 83 = some f83
  h85 : Γ.fns.lookup 85 = some f85
  h79 : Γ.fns.lookup 79 = some f79
  hp : ∃ k, Γ.cls.lookup ("Schema" : Str) = some k ∧ k.fields = (["capped_table", "key_table", "service_table", "whole_table", "width_table"] : List Str) ∧ k.props.lookup ("services" : Str) = some 83 ∧ k.props.lookup ("tables" : Str) = some 85 ∧ k.props.lookup ("key_columns" : Str) = some 79 ∧
    ∀ f ∈ (["capped_table", "key_table", "service_table", "whole_table", "width_table"] : List Str), k.props.lookup f = none
theorem copy_dct {s : S} {n : Nat} {kvs : List (Key × D)} (h : s[n]? = some (.dct kvs)) : bltD .dict [.ref n] s = .ok (.ref s.length) (s ++ [.dct kvs]) := by
  simp only [bltD, dctOf, dctAt_at h, new]
theorem ins_at {s : S} {n : Nat} {c : Str} {fs : List (Str × D)} (h : s[n]? = some (.ins c fs)) : insAt s n = some (c, fs) := by unfold insAt; rw [h]
theorem own_fld {Γ : Ga} (b : BP Γ) {k i : Nat} {s : S} {fs : List (Str × D)} {f : Str} {d : D} (h : s[i]? = some (.ins "Schema" fs)) (hf : f ∈ (["capped_table", "key_table", "service_table", "whole_table", "width_table"] : List Str)) (hd : fs.lookup f = some d) : fldD (clF Γ k) f (.ref i) s = .ok d s := by
  obtain ⟨c, h1, h2, _, _, _, h3⟩ := b.hp
  have h1 : (clF Γ k).cls "Schema" = some c := h1
  have h4 : c.fields.contains f = true := by rw [h2]; simpa using hf
  simp only [fldD, ins_at h, h1, h3 f hf, h4, if_true, hd]
theorem prop_copy {Γ : Ga} (b : BP Γ) {k i g n : Nat} {s : S} {fs : List (Str × D)} {f : Str} {fn : Fn} {kvs : List (Key × D)} (hg : Γ.fns.lookup g = some fn) (hfn : fn = ⟨1, 1, .cons (.ret (.blt .dict (.cons (.fld (.var 0) f) .nil))) .nil⟩) (h : s[i]? = some (.ins "Schema" fs)) (hf : f ∈ (["capped_table", "key_table", "service_table", "whole_table", "width_table"] : List Str)) (hd : fs.lookup f = some (.ref n)) (hn : s[n]? = some (.dct kvs)) :
    (clF Γ (k + 1)).call g [.ref i] s = .ok (.ref s.length) (s ++ [.dct kvs]) := by
  subst hfn
  refine call_rt hg (τ := [some (.ref i)]) rfl rfl (exs_ret ?_)
  simp only [evE, ev, evs, plainT, List.getElem?_cons_zero, R.bind_ok, own_fld b h hf hd, copy_dct hn]
/-- the three properties, each a new dict -/
theorem props_ok {Γ : Ga} (b : BP Γ) {k i : Nat} (hk : 1 ≤ k) {s : S} {ts ks ss W C : List (Str × D)} {b0 : Nat} (h : init76 s b0 i ts ks ss W C) :
    fldD (clF Γ k) "services" (.ref i) s = .ok (.ref s.length) (s ++ [.dct (DK (srt ss))]) ∧ fldD (clF Γ k) "tables" (.ref i) s = .ok (.ref s.length) (s ++ [.dct (DK (srt ts))]) ∧ fldD (clF Γ k) "key_columns" (.ref i) s = .ok (.ref s.length) (s ++ [.dct (DK (srt ks))]) := by
  obtain ⟨j, rfl, _⟩ := lv hk
  obtain ⟨f1, f2, f3, f4, f5, _, e0, e1, e2, e3, e4, e5⟩ := h
  obtain ⟨c, h1, h2, p1, p2, p3, h3⟩ := b.hp
  have h1 : (clF Γ (j + 1)).cls "Schema" = some c := h1
  have q1 := prop_copy b (k := j) b.h83 (f := "service_table") rfl e0 (by simp) rfl e3
  have q2 := prop_copy b (k := j) b.h85 (f := "width_table") rfl e0 (by simp) rfl e1
  have q3 := prop_copy b (k := j) b.h79 (f := "key_table") rfl e0 (by simp) rfl e2
  refine ⟨?_, ?_, ?_⟩
  · simp only [fldD, ins_at e0, h1, p1, q1, R.calm_ok]
  · simp only [fldD, ins_at e0, h1, p2, q2, R.calm_ok]
  · simp only [fldD, ins_at e0, h1, p3, q3, R.calm_ok]
/-- Schema(tables, keys, services) of three dicts -/
theorem schema_mk {Γ : Ga} (b : BP Γ) {k : Nat} (hk : 5 ≤ k) {n m q : Nat} {s : S} {ts ks ss : List (Str × D)} (hn : s[n]? = some (.dct (DK ts))) (hm : s[m]? = some (.dct (DK ks))) (hq : s[q]? = some (.dct (DK ss)))
    (vt : Vals s ts) (vk : Vals2 s ks) (vs : Vals2 s ss) (d1 : (ts.map (·.1)).Nodup) (d2 : (ks.map (·.1)).Nodup) (d3 : (ss.map (·.1)).Nodup) :
    ∃ s', Gp s s' ∧ (match sfault ts ks ss with
      | some p => mkD (clF Γ k) "Schema" 76 [.ref n, .ref m, .ref q] s = .exc "InvalidSchema" [("name", p.2), ("part", .str p.1)] s'
      | none => mkD (clF Γ k) "Schema" 76 [.ref n, .ref m, .ref q] s = .ok (.ref s.length) s' ∧ init76 s' (s.length + 1) s.length ts ks ss (capL ts ks ss (nm ss) [] []).2.1 (capL ts ks ss (nm ss) [] []).2.2) := by
  have g := Gp.new s (.ins "Schema" [])
  obtain ⟨s', gx, h⟩ := schema_init b.toB8 hk (i := s.length) new_at (g _ _ hn) (g _ _ hm) (g _ _ hq) (vt.kd g.kd) (vk.kd g.kd) (vs.kd g.kd) d1 d2 d3
  have gg : Gp s s' := fun j o e => gx _ _ (by have := (List.getElem?_eq_some_iff.mp e).1; omega) (g _ _ e)
  refine ⟨s', gg, ?_⟩
  revert h
  cases sfault ts ks ss with
  | some p => exact fun h => by unfold mkD; rw [h]; rfl
  | none => exact fun h => ⟨by unfold mkD; rw [h.1]; rfl, by have := h.2; simpa using this⟩
end SL

set_option Elab.async false
set_option linter.all false
set_option maxRecDepth 100000
set_option autoImplicit false
set_option maxHeartbeats 1000000
/-! SLr: the parts of a schema, drawn: names and columns. -/
namespace SL
open PySem L2 G
local macro_rules | `(tactic| walk_at "ev") => `(tactic| simp only [evE, evT, ev, evs, plainT, asB, evPart, List.getElem?_cons_zero, List.getElem?_cons_succ, List.set_cons_zero, List.set_cons_succ, Cst.d, Ex.isNop, R.bind_ok, R.toS_ok, if_true, Bool.not_true, Bool.not_false, Bool.false_eq_true, if_false, addI, subI, eqI, *])
/-- the pool drawn from; all but it and the places of X stand as they stood -/
structure Gd (n : Nat) (X : List Nat) (s s' : S) : Prop where
  pool : PoolAt n s'
  keep : ∀ (j : Nat) (o : O), j ≠ n → j ∉ X → s[j]? = some o → s'[j]? = some o
theorem Gd.trans {n : Nat} {X : List Nat} {a b c : S} (h : Gd n X a b) (g : Gd n X b c) : Gd n X a c := ⟨g.pool, fun j o h1 h2 e => g.keep j o h1 h2 (h.keep j o h1 h2 e)⟩
theorem Gd.wide {n : Nat} {X : List Nat} {a b : S} (h : Gd n [] a b) : Gd n X a b := ⟨h.pool, fun j o h1 _ e => h.keep j o h1 (by simp) e⟩
theorem Gd.at {n j : Nat} {a b : S} {o : O} (h : Gd n [] a b) (hj : j ≠ n) (e : a[j]? = some o) : b[j]? = some o := h.keep j o hj (by simp) e
theorem Gd.of_gr {n : Nat} {s s' : S} (h : Gr n s s') : Gd n [] s s' := ⟨h.pool, fun j o h1 _ e => h.at e h1⟩
theorem Gd.of_gp {n : Nat} {s s' : S} (p : PoolAt n s) (h : Gp s s') : Gd n [] s s' := ⟨let ⟨o, a, b⟩ := p; ⟨o, h _ _ a, b⟩, fun j o _ _ e => h j o e⟩
theorem Gd.new {n : Nat} {s : S} (p : PoolAt n s) (o : O) : Gd n [] s (s ++ [o]) := .of_gp p (Gp.new s o)
theorem Gd.refl {n : Nat} {s : S} (p : PoolAt n s) : Gd n [] s s := .of_gp p (Gp.refl s)
theorem _root_.G.PoolAt.set {n a : Nat} {s : S} {o : O} (p : PoolAt n s) (h : a ≠ n) : PoolAt n (s.set a o) := by
  obtain ⟨q, e, i⟩ := p
  exact ⟨q, by rw [List.getElem?_set_ne h]; exact e, i⟩
theorem Gd.set {n a : Nat} {X : List Nat} {s : S} {o : O} (p : PoolAt n s) (h : a ≠ n) (hx : a ∈ X) : Gd n X s (s.set a o) := ⟨p.set h, fun j o' _ h2 e => by rw [List.getElem?_set_ne (fun (z : a = j) => h2 (z ▸ hx))]; exact e⟩
/-- places that were free don't count -/
theorem Gd.drop {n : Nat} {X : List Nat} {s s' : S} (h : Gd n X s s') (hx : ∀ j ∈ X, s.length ≤ j) : Gd n [] s s' := ⟨h.pool, fun j o h1 _ e => h.keep j o h1 (fun z => by
  have := hx j z
  have := (List.getElem?_eq_some_iff.mp e).1
  omega) e⟩
theorem _root_.G.PoolAt.ne {n a : Nat} {s : S} (p : PoolAt n s) (h : s.length ≤ a) : a ≠ n := by
  have := p.lt
  omega
theorem _root_.G.PoolAt.lst {n : Nat} {s : S} (p : PoolAt n s) : ∃ ds, s[n]? = some (.lst ds) := by
  obtain ⟨o, e, ⟨a, b, c, d, cs, rfl, _⟩⟩ := p
  exact ⟨_, e⟩
theorem _root_.G.PoolAt.ne_dct {n a : Nat} {s : S} {kvs : List (Key × D)} (p : PoolAt n s) (h : s[a]? = some (.dct kvs)) : a ≠ n := fun e => by
  obtain ⟨ds, q⟩ := p.lst
  rw [e, q] at h
  cases h
theorem Gd.kd {n : Nat} {s s' : S} (p : PoolAt n s) (h : Gd n [] s s') : Kd s s' := fun j o e => by
  by_cases q : j = n
  · subst q
    obtain ⟨ds, e1⟩ := p.lst
    obtain ⟨ds', e2⟩ := h.pool.lst
    rw [e1] at e
    cases e
    exact ⟨_, e2, rfl⟩
  · exact ⟨o, h.at q e, rfl⟩
theorem Gd.len {n : Nat} {s s' : S} (p : PoolAt n s) (h : Gd n [] s s') : s.length ≤ s'.length := by
  have h1 := p.lt
  have h2 := h.pool.lt
  by_cases q : s.length - 1 = n
  · omega
  · have := (List.getElem?_eq_some_iff.mp (h.at q (List.getElem?_eq_getElem (by omega : s.length - 1 < s.length)))).1
    omega
structure BD (Γ : Ga) : Prop extends BP Γ where
  h252 : Γ.fns.lookup 252 = some f252
  h224 : Γ.fns.lookup 224 = some f224
  h148 : Γ.fns.lookup 148 = some f148
  h325 : Γ.fns.lookup 325 = some f325
  h230 : Γ.fns.lookup 230 = some f230
  h136 : Γ.fns.lookup 136 = some f136
  h298 : Γ.fns.lookup 298 = some f298
  h210 : Γ.fns.lookup 210 = some f210
  h275 : Γ.fns.lookup 275 = some f275
theorem dr_ {Γ : Ga} (b : BD Γ) {k : Nat} (hk : 2 ≤ k) : Dr (clF Γ k) 148 := by
  obtain ⟨j, rfl, hj⟩ := lv hk
  obtain ⟨i, rfl, hi⟩ := lv hj
  refine dr_of (cl := clF Γ (i + 1)) (mix := 224) (fun x y s => ?_) (fun ds s => call_of b.h148 ds s)
  obtain ⟨r, h1, h2⟩ := run_mixed (clF Γ i) s x y
  exact ⟨r, (call_of b.h224 _ _).trans h1, h2⟩
theorem wo_ {Γ : Ga} (b : BD Γ) {k : Nat} (hk : 3 ≤ k) : Wo (clF Γ k) 325 := by
  obtain ⟨j, rfl, hj⟩ := lv hk
  exact wo_of (dr_ b hj) (fun ds s => call_of b.h325 ds s)
theorem draw {Γ : Ga} (b : BD Γ) {k : Nat} (hk : 2 ≤ k) {s : S} {n : Nat} {m : Int} (p : PoolAt n s) (h0 : 0 < m) (h : m < 2 ^ 60) : ∃ r s', (clF Γ k).call 148 [.ref n, .int m] s = .ok (.int r) s' ∧ 0 ≤ r ∧ r < m ∧ Gd n [] s s' := by
  obtain ⟨r, s', h1, h2, h3, h4, _⟩ := dr_ b hk s n m p h0 (small_log h0 (by omega))
  exact ⟨r, s', h1, h2, h3, .of_gr h4⟩
theorem wordB_of {x : Str} (h : Low x) (h1 : 1 ≤ x.length) (h8 : x.length ≤ 8) : wordB x = true := by
  unfold wordB
  rw [Bool.and_eq_true]
  refine ⟨decide_eq_true ⟨h1, h8⟩, List.all_eq_true.mpr fun c hc => decide_eq_true (mem_letters.mpr (h c hc))⟩
theorem wordB_len {x : Str} (h : wordB x = true) : 1 ≤ x.length ∧ x.length ≤ 8 := by
  unfold wordB at h
  rw [Bool.and_eq_true] at h
  exact of_decide_eq_true h.1
theorem draw_names {Γ : Ga} (b : BD Γ) {k : Nat} (hk : 4 ≤ k) {s : S} {n : Nat} {m : Int} (p : PoolAt n s) (h0 : 0 ≤ m) (h : m ≤ 100) :
    ∃ (l : Nat) (s' : S) (xs : List Str), (clF Γ k).call 230 [.ref n, .int m] s = .ok (.ref l) s' ∧ Gd n [] s s' ∧ s'[l]? = some (.lst (xs.map .str)) ∧ (xs.length : Int) = m ∧ (∀ x ∈ xs, wordB x = true) ∧ s.length ≤ l := by
  obtain ⟨j, rfl, hj⟩ := lv hk
  obtain ⟨r1, s1, a1, a2, a3, a4⟩ := draw b (k := j) (by omega) (m := 8) p (by decide) (by decide)
  obtain ⟨x, s2, c1, c2, c3, c4, _⟩ := wo_ b (k := j) (by omega) s1 n r1 a4.pool a2 (by omega)
  have c4 := Gd.of_gr c4
  obtain ⟨r3, s3, d1, d2, d3, d4⟩ := draw b (k := j) (by omega) (m := 26) c4.pool (by decide) (by decide)
  have g3 := (a4.trans c4).trans d4
  have g4 := Gd.new g3.pool (.lst [.int 1, .int 3, .int 5, .int 7, .int 9, .int 11])
  obtain ⟨r5, s5, e1, e2, e3, e4⟩ := draw b (k := j) (by omega) (m := 6) g4.pool (by decide) (by decide)
  have at5 := e4.at (g3.pool.ne (Nat.le_refl _)) (new_at (s := s3) (o := .lst [.int 1, .int 3, .int 5, .int 7, .int 9, .int 11]))
  obtain ⟨st, hst, hst2⟩ : ∃ st : Int, ixD (.ref s3.length) (.int r5) s5 = .ok (.int st) s5 ∧ (0 ≤ st ∧ st < 12) := by
    have hr : r5 = 0 ∨ r5 = 1 ∨ r5 = 2 ∨ r5 = 3 ∨ r5 = 4 ∨ r5 = 5 := by omega
    rcases hr with rfl | rfl | rfl | rfl | rfl | rfl <;> exact ⟨_, ixD_ref at5 (by decide) rfl, by decide, by decide⟩
  obtain ⟨r6, s6, i1, i2, i3, i4⟩ := draw b (k := j) (by omega) (m := 2) e4.pool (by decide) (by decide)
  have g6 := ((g3.trans g4).trans e4).trans i4
  have g7 := Gd.new g6.pool (.lst [])
  have hf := g6.pool.ne (Nat.le_refl s6.length)
  let I : Nat → Fr → S → Prop := fun i τ s' => ∃ (xs : List Str) (c e : Option D), τ = [some (.ref n), some (.int m), some (.str letters), some (.str x), some (.int r3), some (.int st), some (.int r6), some (.ref s6.length), c, e] ∧ xs.length = i ∧ (∀ y ∈ xs, Low y ∧ y.length = x.length + 1) ∧ s' = (s6 ++ [O.lst []]).set s6.length (.lst (xs.map .str))
  have l7 : s6.length < (s6 ++ [O.lst []]).length := by simp
  obtain ⟨τ', s', h1, xs, c, e, rfl, hl, hx, rfl⟩ := forS_inv (ok := (Src.vals (rngD 0 m.toNat)).ok) (g := forB (clF Γ j) (.var 8) (.cons (.asg (.loc (.var 9)) (.ix (.var 2) (.bin .mod (.blt .int (.cons (.bin .add (.var 4) (.bin .mul (.var 5) (.var 8))) .nil)) (.cst (.int 26)))))
    (.cons (.ite (.cmp .eq (.var 6) (.cst (.int 1))) (.cons (.expr (.meth .append (.var 7) (.cons (.bin .add (.var 9) (.var 3)) .nil))) .nil) (.cons (.expr (.meth .append (.var 7) (.cons (.bin .add (.var 3) (.var 9)) .nil))) .nil)) .nil)))
    (items := rngD 0 m.toNat) (τ := [some (.ref n), some (.int m), some (.str letters), some (.str x), some (.int r3), some (.int st), some (.int r6), some (.ref s6.length), none, none]) (s := s6 ++ [.lst []]) I (fun _ _ _ _ => trivial) (fun i d τ s' hi ⟨xs, c, e, hτ, hl, hx, hs⟩ => by
      subst hτ
      obtain ⟨hil, rfl⟩ := rng_at hi
      have hat : s'[s6.length]? = some (.lst (xs.map .str)) := by rw [hs]; exact set_get l7
      have lat : s6.length < s'.length := (List.getElem?_eq_some_iff.mp hat).1
      obtain ⟨cc, q1, q2⟩ := letter_ix (r := (r3 + st * (0 + (i : Nat))) % 26) (Int.emod_nonneg _ (by decide)) (Int.emod_lt_of_pos _ (by decide)) (s := s')
      have hm : binD .mul (.int st) (.int (0 + (i : Nat))) s' = .ok (.int (st * (0 + (i : Nat)))) s' := mulD (.inl (by omega))
      have hmod : binD .mod (.int (r3 + st * (0 + (i : Nat)))) (.int 26) s' = .ok (.int ((r3 + st * (0 + (i : Nat))) % 26)) s' := modD (by decide)
      have hint : bltD .int [.int (r3 + st * (0 + (i : Nat)))] s' = .ok (.int (r3 + st * (0 + (i : Nat)))) s' := rfl
      have ln1 : (⟨#[cc]⟩ : Str).length = 1 := rfl
      have hms : mSel .append (.ref s6.length) s' = some .lappend := by simp only [mSel, hat]; rfl
      have add1 : binD .add (.str ⟨#[cc]⟩) (.str x) s' = .ok (.str (⟨#[cc]⟩ ++ x)) s' := addS (by rw [ln1]; omega)
      have add2 : binD .add (.str x) (.str ⟨#[cc]⟩) s' = .ok (.str (x ++ ⟨#[cc]⟩)) s' := addS (by rw [ln1]; omega)
      have ap : ∀ y : Str, mtD .lappend (.ref s6.length) [.str y] s' = .ok .non (s'.set s6.length (.lst (xs.map .str ++ [.str y]))) := fun y => append_lst hat (by rw [List.length_map]; omega)
      have fin : ∀ y : Str, Low y → y.length = x.length + 1 → I (i + 1) [some (.ref n), some (.int m), some (.str letters), some (.str x), some (.int r3), some (.int st), some (.int r6), some (.ref s6.length), some (.int (0 + (i : Nat))), some (.str ⟨#[cc]⟩)] (s'.set s6.length (.lst (xs.map .str ++ [.str y]))) := fun y h1 h2 => by
        refine ⟨xs ++ [y], _, _, rfl, by simp [hl], fun z hz => ?_, by rw [hs, List.set_set]; simp⟩
        rcases List.mem_append.mp hz with h | h
        · exact hx z h
        · simp at h; subst h; exact ⟨h1, h2⟩
      have step1 : ∀ cs, exs (clF Γ j) (.cons (.asg (.loc (.var 9)) (.ix (.var 2) (.bin .mod (.blt .int (.cons (.bin .add (.var 4) (.bin .mul (.var 5) (.var 8))) .nil)) (.cst (.int 26))))) cs) [some (.ref n), some (.int m), some (.str letters), some (.str x), some (.int r3), some (.int st), some (.int r6), some (.ref s6.length), some (.int (0 + (i : Nat))), e] s'
          = exs (clF Γ j) cs [some (.ref n), some (.int m), some (.str letters), some (.str x), some (.int r3), some (.int st), some (.int r6), some (.ref s6.length), some (.int (0 + (i : Nat))), some (.str ⟨#[cc]⟩)] s' := fun cs => exs_asg (d := .str ⟨#[cc]⟩) (s' := s') (by clear hs; walk_at "ev")
      by_cases h6 : r6 = 1
      · refine ⟨_, _, ?_, fin (⟨#[cc]⟩ ++ x) (low_app (low_one q2) c2) (by rw [len_app, ln1]; omega)⟩
        rw [forB_var]
        refine (step1 _).trans ((exs_nx ((ite_t (s' := s') ?_).trans ((exs_expr (d := .non) (s' := s'.set s6.length (.lst (xs.map .str ++ [.str (⟨#[cc]⟩ ++ x)]))) ?_).trans rfl))).trans rfl)
        · subst h6; walk_at "ev"; rfl
        · have := ap (⟨#[cc]⟩ ++ x)
          clear hs
          walk_at "ev"
      · refine ⟨_, _, ?_, fin (x ++ ⟨#[cc]⟩) (low_app c2 (low_one q2)) (by rw [len_app, ln1])⟩
        rw [forB_var]
        refine (step1 _).trans ((exs_nx ((ite_f (s' := s') ?_).trans ((exs_expr (d := .non) (s' := s'.set s6.length (.lst (xs.map .str ++ [.str (x ++ ⟨#[cc]⟩)]))) ?_).trans rfl))).trans rfl)
        · have : (r6 == 1) = false := by simpa using h6
          walk_at "ev"
        · have := ap (x ++ ⟨#[cc]⟩)
          clear hs
          walk_at "ev") ⟨[], none, none, rfl, rfl, by simp, by
        apply List.ext_getElem?
        intro jj
        by_cases e : s6.length = jj
        · subst e; rw [set_get l7]; simp
        · rw [List.getElem?_set_ne e]⟩
  rw [rng_len] at hl
  have g67 := g6.trans g7
  have l6 := g6.len p
  refine ⟨s6.length, _, xs, call_rt b.h230 (τ := [some (.ref n), some (.int m), none, none, none, none, none, none, none, none]) rfl rfl ?_, ((g67.wide (X := [s6.length])).trans (Gd.set (X := [s6.length]) g7.pool hf (by simp))).drop (fun q hq => by simp at hq; omega), set_get l7, by omega, fun y hy => wordB_of (hx y hy).1 (by rw [(hx y hy).2]; omega) (by rw [(hx y hy).2]; omega), l6⟩
  refine (exs_asg (d := .str letters) (s' := s) rfl).trans ?_
  refine (exs_asg (d := .str x) (s' := s2) (by walk_at "ev")).trans ?_
  refine (exs_asg (d := .int r3) (s' := s3) (by walk_at "ev")).trans ?_
  refine (exs_asg (d := .int st) (s' := s5) (by walk_at "ev"; simp only [new, R.bind_ok, e1, hst])).trans ?_
  refine (exs_asg (d := .int r6) (s' := s6) (by walk_at "ev")).trans ?_
  refine (exs_asg (d := .ref s6.length) (s' := s6 ++ [.lst []]) rfl).trans ?_
  refine (exs_nx (τ' := [some (.ref n), some (.int m), some (.str letters), some (.str x), some (.int r3), some (.int st), some (.int r6), some (.ref s6.length), c, e]) ?_).trans (exs_ret (d := .ref s6.length) rfl)
  exact (ex_for rfl (src_rng h0 (by omega) _)).trans h1
/-! ### columns -/
theorem colsB_mono {w w' : Int} (hw : w ≤ w') : ∀ {ds : List D} {l : Int}, colsB l w ds = true → colsB l w' ds = true
  | [], _, _ => rfl
  | d :: ds, l, h => by
    cases d <;> first
      | (cases h; done)
      | (simp only [colsB, Bool.and_eq_true, decide_eq_true_eq] at h ⊢
         exact ⟨⟨h.1.1, by omega⟩, colsB_mono hw h.2⟩)
theorem colsB_app {i : Int} : ∀ {ds : List D} {l : Int}, colsB l i ds = true → l < i → colsB l (i + 1) (ds ++ [.int i]) = true
  | [], l, _, h => by simp [colsB, h]; omega
  | d :: ds, l, h, hl => by
    cases d <;> first
      | (cases h; done)
      | (simp only [List.cons_append, colsB, Bool.and_eq_true, decide_eq_true_eq] at h ⊢
         exact ⟨⟨h.1.1, by omega⟩, colsB_app h.2 h.1.2⟩)
theorem colsB_take {w : Int} : ∀ {ds : List D} {l : Int} (k : Nat), colsB l w ds = true → colsB l w (ds.take k) = true
  | [], _, k, _ => by simp [colsB]
  | d :: ds, l, 0, _ => by simp [colsB]
  | d :: ds, l, k + 1, h => by
    cases d <;> first
      | (cases h; done)
      | (simp only [List.take_succ_cons, colsB, Bool.and_eq_true, decide_eq_true_eq] at h ⊢
         exact ⟨h.1, colsB_take k h.2⟩)
theorem cut_take {α : Type} (ds : List α) {hi : Int} (h : 0 ≤ hi) : cutL ds none (some hi) = ds.take hi.toNat := by
  obtain ⟨k, rfl⟩ := Int.eq_ofNat_of_zero_le h
  unfold cutL
  rw [HT.sIx_none]
  show List.take (HT.sIx ds.length ds.length (some ((k : Nat) : Int)) - 0) (ds.drop 0) = _
  rw [HT.sIx_nat, Nat.sub_zero, List.drop_zero, Int.toNat_natCast]
  by_cases q : k ≤ ds.length
  · rw [Nat.min_eq_left q]
  · rw [Nat.min_eq_right (by omega), List.take_of_length_le (by omega), List.take_of_length_le (by omega)]
theorem draw_columns {Γ : Ga} (b : BD Γ) {k : Nat} (hk : 3 ≤ k) {s : S} {n : Nat} {w lo hi : Int} (p : PoolAt n s) (hw : 1 ≤ w) (hw2 : w ≤ 1000) (h0 : 0 ≤ lo) (h1 : lo ≤ 1) (h2 : lo ≤ hi) :
    ∃ g s', (clF Γ k).call 136 [.ref n, .int w, .int lo, .int hi] s = .ok (.tup g) s' ∧ Gd n [] s s' ∧ colsB (-1) w g = true ∧ lo ≤ g.length ∧ (g.length : Int) ≤ hi := by
  obtain ⟨j, rfl, hj⟩ := lv hk
  obtain ⟨r, s1, e1, ⟨hc, hg⟩⟩ := lcS_inv (ok := (Src.vals (rngD 0 w.toNat)).ok) (items := rngD 0 w.toNat) (s := s) (g := lcB (clF Γ j) [some (.ref n), some (.int w), some (.int lo), some (.int hi), none, none] [5] (.var 5) (.cmp .eq (.call 148 (.cons (.var 0) (.cons (.cst (.int 2)) .nil))) (.cst (.int 1))) (.var 5))
    (fun i r s' => colsB (-1) (i : Nat) r = true ∧ Gd n [] s s') (fun _ _ _ _ => trivial) (fun i d r s' hi' ⟨hc, hg⟩ => by
      obtain ⟨hil, rfl⟩ := rng_at hi'
      obtain ⟨q, s2, q1, q2, q3, q4⟩ := draw b (k := j) (by omega) (m := 2) hg.pool (by decide) (by decide)
      have e : evT (clF Γ j) (.cmp .eq (.call 148 (.cons (.var 0) (.cons (.cst (.int 2)) .nil))) (.cst (.int 1))) [some (.ref n), some (.int w), some (.int lo), some (.int hi), none, some (.int (0 + (i : Nat)))] s' = .ok (q == 1) s2 := by walk_at "ev"
      cases hq : (q == 1) with
      | true =>
        rw [hq] at e
        refine ⟨some (.int (0 + (i : Nat))), s2, lcB_if rfl e rfl, ?_, hg.trans q4⟩
        have := colsB_app hc (by omega)
        simpa using this
      | false =>
        rw [hq] at e
        refine ⟨none, s2, lcB_no rfl e, ?_, hg.trans q4⟩
        simp only [Option.toList_none, List.append_nil]
        exact colsB_mono (by omega) hc) ⟨rfl, Gd.refl p⟩
  rw [rng_len] at hc
  have hc : colsB (-1) w r = true := colsB_mono (by omega) hc
  have hlen := colsB_len hc (by omega)
  have e2 : evE (clF Γ j) (.lc (.var 5) (.var 5) .rng1 (.cons (.var 1) .nil) (.cmp .eq (.call 148 (.cons (.var 0) (.cons (.cst (.int 2)) .nil))) (.cst (.int 1))) [("_law_column", 5)]) [some (.ref n), some (.int w), some (.int lo), some (.int hi), none, none] s = .ok (.ref s1.length) (s1 ++ [.lst r]) :=
    ev_lc (s1 := s) (s2 := s1) (ds := [.int w]) (src := .vals (rngD 0 w.toNat)) rfl (src_rng (by omega) (by omega) s) (by
      show (rngD 0 w.toNat).length < _
      rw [rng_len, sizeLine_eq]; omega) e1
  have g2 := Gd.new hg.pool (.lst r)
  have fin : ∀ (l : Nat) (s3 : S) (r : List D), s3[l]? = some (.lst r) → colsB (-1) w r = true → lo ≤ r.length → Gd n [] s s3 → exs (clF Γ j) (.cons (.ret (.blt .tuple (.cons (.sl (.var 4) .nop (.var 3)) .nil))) .nil) [some (.ref n), some (.int w), some (.int lo), some (.int hi), some (.ref l), none] s3 = .rt (.tup (r.take hi.toNat)) (s3 ++ [.lst (r.take hi.toNat)]) := fun l s3 r h1 _ _ _ => by
    refine exs_ret ?_
    have a1 : slD (.ref l) none (some hi) s3 = .ok (.ref s3.length) (s3 ++ [.lst (r.take hi.toNat)]) := by
      simp only [slD, lstAt_of h1, new, cut_take r (by omega : 0 ≤ hi)]
    have a2 : bltD .tuple [.ref s3.length] (s3 ++ [.lst (r.take hi.toNat)]) = .ok (.tup (r.take hi.toNat)) (s3 ++ [.lst (r.take hi.toNat)]) := by
      simp only [bltD, seqOf, lstAt_of (new_at (s := s3))]
    walk_at "ev"
  have done : ∀ (r : List D), colsB (-1) w r = true → lo ≤ r.length → lo ≤ (r.take hi.toNat).length ∧ ((r.take hi.toNat).length : Int) ≤ hi := fun r _ h => by
    rw [List.length_take]
    omega
  have hll : bltD .len [.ref s1.length] (s1 ++ [.lst r]) = .ok (.int r.length) (s1 ++ [.lst r]) := by
    have e : dctOf (s1 ++ [.lst r]) (.ref s1.length) = none := dctOf_lst new_at
    simp only [bltD, e, seqOf, lstAt_of (new_at (s := s1))]
  have c1 : evT (clF Γ j) (.cmp .lt (.blt .len (.cons (.var 4) .nil)) (.var 2)) [some (.ref n), some (.int w), some (.int lo), some (.int hi), some (.ref s1.length), none] (s1 ++ [.lst r]) = .ok (decide ((r.length : Int) < lo)) (s1 ++ [.lst r]) := by
    walk_at "ev"
    rfl
  have st : ∀ {d s'}, exs (clF Γ j) (.cons (.ite (.cmp .lt (.blt .len (.cons (.var 4) .nil)) (.var 2)) (.cons (.asg (.loc (.var 4)) (.lst (.cons (.call 148 (.cons (.var 0) (.cons (.var 1) .nil))) .nil))) .nil) (.nil))
    (.cons (.ret (.blt .tuple (.cons (.sl (.var 4) .nop (.var 3)) .nil))) .nil)) [some (.ref n), some (.int w), some (.int lo), some (.int hi), some (.ref s1.length), none] (s1 ++ [.lst r]) = .rt d s' → (clF Γ (j + 1)).call 136 [.ref n, .int w, .int lo, .int hi] s = .ok d s' := fun h =>
    call_rt b.h136 (τ := [some (.ref n), some (.int w), some (.int lo), some (.int hi), none, none]) rfl rfl ((exs_asg e2).trans h)
  by_cases hl : (r.length : Int) < lo
  · rw [decide_eq_true hl] at c1
    obtain ⟨q, s2, q1, q2, q3, q4⟩ := draw b (k := j) (by omega) (m := w) g2.pool (by omega) (by omega)
    have hq : colsB (-1) w [.int q] = true := by
      simp only [colsB, Bool.and_true, Bool.and_eq_true, decide_eq_true_eq]
      omega
    have g3 := ((hg.trans g2).trans q4)
    have g4 := Gd.new g3.pool (.lst [.int q])
    have hlo : lo ≤ [D.int q].length := by simp; omega
    refine ⟨_, _, st ((exs_nx ((ite_t c1).trans ((exs_asg (d := .ref s2.length) (s' := s2 ++ [.lst [.int q]]) (by simp only [evE, ev, plainT, new]; walk_at "ev")).trans rfl))).trans (fin _ _ _ new_at hq hlo (g3.trans g4))), (g3.trans g4).trans (Gd.new g4.pool _), colsB_take _ hq, (done _ hq hlo).1, (done _ hq hlo).2⟩
  · rw [decide_eq_false hl] at c1
    refine ⟨_, _, st ((exs_skip c1).trans (fin _ _ _ new_at hc (by omega) (hg.trans g2))), (hg.trans g2).trans (Gd.new g2.pool _), colsB_take _ hc, (done _ hc (by omega)).1, (done _ hc (by omega)).2⟩
end SL

set_option Elab.async false
set_option linter.all false
set_option maxRecDepth 100000
set_option autoImplicit false
set_option maxHeartbeats 1000000
/-! SLs: the parts of a schema, drawn: tables and keys. -/
namespace SL
open PySem L2 G
local macro_rules | `(tactic| walk_at "ev") => `(tactic| simp only [evE, evT, ev, evs, plainT, asB, evPart, List.getElem?_cons_zero, List.getElem?_cons_succ, List.set_cons_zero, List.set_cons_succ, Cst.d, Ex.isNop, R.bind_ok, R.toS_ok, if_true, Bool.not_true, Bool.not_false, Bool.false_eq_true, if_false, addI, subI, eqI, *])
/-! ### dicts that grow -/
section
variable {ts : List (Str × D)} {x y : Str} {v d : D}
theorem setK_DK : setK (DK ts) (.inr x) v = DK (setK ts x v) := by
  have h : (DK ts).any (fun p => decide (p.1 = (Sum.inr x : Key))) = ts.any fun p => decide (p.1 = x) := by
    unfold DK
    rw [List.any_map]
    congr 1
    funext p
    simp
  unfold setK
  rw [h]
  split
  · unfold DK
    rw [List.map_map, List.map_map]
    apply List.map_congr_left
    intro p _
    by_cases e : p.1 = x
    · simp [e]
    · simp [e]
  · simp [DK]
theorem mem_setK {p : Str × D} (h : p ∈ setK ts x v) : p ∈ ts ∧ p.1 ≠ x ∨ p = (x, v) := by
  unfold setK at h
  split at h
  · obtain ⟨q, hq, rfl⟩ := List.mem_map.mp h
    by_cases e : q.1 = x
    · right; simp [e]
    · left; simp [e, hq]
  · rename_i hn
    rcases List.mem_append.mp h with h | h
    · refine .inl ⟨h, fun e => hn ?_⟩
      rw [List.any_eq_true]
      exact ⟨p, h, by simpa using e⟩
    · right; simpa using h
theorem setK_keys : (setK ts x v).map (·.1) = if x ∈ ts.map (·.1) then ts.map (·.1) else ts.map (·.1) ++ [x] := by
  have hiff : (ts.any fun p => decide (p.1 = x)) = true ↔ x ∈ ts.map (·.1) := by
    rw [List.any_eq_true]
    constructor
    · rintro ⟨p, hp, e⟩
      exact List.mem_map.mpr ⟨p, hp, by simpa using e⟩
    · intro h
      obtain ⟨p, hp, e⟩ := List.mem_map.mp h
      exact ⟨p, hp, by simpa using e⟩
  unfold setK
  by_cases h : x ∈ ts.map (·.1)
  · rw [if_pos (hiff.mpr h), if_pos h, List.map_map]
    apply List.map_congr_left
    intro p _
    show (if p.1 = x then (p.1, v) else p).1 = p.1
    split <;> rfl
  · rw [if_neg (fun z => h (hiff.mp z)), if_neg h, List.map_append]; rfl
theorem setK_nodup (h : (ts.map (·.1)).Nodup) : ((setK ts x v).map (·.1)).Nodup := by
  rw [setK_keys]
  split
  · exact h
  · rename_i hn
    rw [List.nodup_append]
    refine ⟨h, by simp, fun a ha b hb => ?_⟩
    simp at hb
    subst hb
    exact fun e => hn (e ▸ ha)
theorem setK_len : ts.length ≤ (setK ts x v).length ∧ (setK ts x v).length ≤ ts.length + 1 ∧ 1 ≤ (setK ts x v).length := by
  have h := congrArg List.length (setK_keys (ts := ts) (x := x) (v := v))
  rw [List.length_map] at h
  rw [h]
  split
  · rename_i hm
    rw [List.length_map]
    cases ts with
    | nil => simp at hm
    | cons p r => simp
  · simp
theorem getK_of_mem {p : Str × D} (hn : (ts.map (·.1)).Nodup) (h : p ∈ ts) : getK ts p.1 = some p.2 := by
  induction ts with
  | nil => cases h
  | cons q r ih =>
    have hn' := List.nodup_cons.mp hn
    unfold getK at ih ⊢
    rw [List.find?_cons]
    by_cases e : q.1 = p.1
    · rw [decide_eq_true e]
      rcases List.mem_cons.mp h with rfl | h
      · rfl
      · exact absurd (List.mem_map.mpr ⟨p, h, e.symm⟩) hn'.1
    · rw [decide_eq_false e]
      rcases List.mem_cons.mp h with rfl | h
      · exact absurd rfl e
      · exact ih hn'.2 h
theorem mem_getK (h : getK ts x = some d) : (x, d) ∈ ts := by
  obtain ⟨d', h1, h2⟩ := getK_mem (mem_of_getK h)
  rw [h] at h1
  cases h1
  exact h2
end
theorem put_dct {s : S} {a : Nat} {ts : List (Str × D)} {x : Str} {v : D} (h : s[a]? = some (.dct (DK ts))) (hl : ts.length < 64) : setD (.ref a) (.str x) v s = some (s.set a (.dct (DK (setK ts x v)))) := by
  simp only [setD, h, keyD, setK_DK]
  rw [if_pos]
  unfold DK
  rw [List.length_map]
  exact Nat.lt_trans hl (by decide)
/-! ### tables -/
structure TbS (wd : Int) (ts : List (Str × D)) : Prop where
  nd : (ts.map (·.1)).Nodup
  all : ∀ p ∈ ts, wordB p.1 = true ∧ ∃ w, p.2 = .int w ∧ 1 ≤ w ∧ w ≤ wd
theorem TbS.at {wd : Int} {ts : List (Str × D)} (h : TbS wd ts) {x : Str} {d : D} (e : getK ts x = some d) : wordB x = true ∧ ∃ w, d = .int w ∧ 1 ≤ w ∧ w ≤ wd := h.all _ (mem_getK e)
theorem draw_tables {Γ : Ga} (b : BD Γ) {k : Nat} (hk : 5 ≤ k) {s : S} {n : Nat} {m wd : Int} (p : PoolAt n s) (h0 : 0 ≤ m) (h : m ≤ 50) (hw : 1 ≤ wd) (hw2 : wd ≤ 1000) :
    ∃ (a : Nat) (s' : S) (ts : List (Str × D)), (clF Γ k).call 298 [.ref n, .int m, .int wd] s = .ok (.ref a) s' ∧ Gd n [] s s' ∧ s'[a]? = some (.dct (DK ts)) ∧ TbS wd ts ∧ (ts.length : Int) ≤ m ∧ (1 ≤ m → 1 ≤ ts.length) ∧ s.length ≤ a := by
  obtain ⟨j, rfl, hj⟩ := lv hk
  obtain ⟨l, s1, xs, e1, g1, l1, hlen, hx, hl0⟩ := draw_names b (k := j) hj p h0 (by omega)
  have g2 := Gd.new g1.pool (.dct [])
  have hln : l ≠ n := p.ne hl0
  have hla : l ≠ s1.length := by have := (List.getElem?_eq_some_iff.mp l1).1; omega
  have han : s1.length ≠ n := g1.pool.ne (Nat.le_refl _)
  have l2 := g2.at hln l1
  let I : Nat → Fr → S → Prop := fun i τ s' => ∃ (ts : List (Str × D)) (c : Option D), τ = [some (.ref n), some (.int m), some (.int wd), some (.ref l), some (.ref s1.length), c] ∧ Gd n [s1.length] (s1 ++ [.dct []]) s' ∧ s'[s1.length]? = some (.dct (DK ts)) ∧ TbS wd ts ∧ ts.length ≤ i ∧ (1 ≤ i → 1 ≤ ts.length)
  obtain ⟨τ', s', h1, ts, c, rfl, hg, hat, ht, hle, hge⟩ := forS_inv (ok := (Src.lst l (xs.map .str)).ok) (g := forB (clF Γ j) (.var 5) (.cons (.asg (.sub (.var 4) (.var 5)) (.bin .add (.cst (.int 1)) (.call 148 (.cons (.var 0) (.cons (.var 2) .nil))))) .nil))
    (items := xs.map .str) (τ := [some (.ref n), some (.int m), some (.int wd), some (.ref l), some (.ref s1.length), none]) (s := s1 ++ [.dct []]) I (fun i τ s' ⟨ts, c, _, hg, _⟩ => lstAt_of (hg.keep _ _ hln (by simpa using hla) l2)) (fun i d τ s' hi ⟨ts, c, hτ, hg, hat, ht, hle, hge⟩ => by
      subst hτ
      rw [List.getElem?_map, Option.map_eq_some_iff] at hi
      obtain ⟨x, hxi, rfl⟩ := hi
      have hil := (List.getElem?_eq_some_iff.mp hxi).1
      have hmem : x ∈ xs := List.mem_of_getElem? hxi
      obtain ⟨r, s2, q1, q2, q3, q4⟩ := draw b (k := j) (by omega) (m := wd) hg.pool (by omega) (by omega)
      have hat2 := q4.at han hat
      have pl := put_dct (x := x) (v := .int (1 + r)) hat2 (by omega)
      have lt2 := (List.getElem?_eq_some_iff.mp hat2).1
      refine ⟨_, _, ?_, setK ts x (.int (1 + r)), some (.str x), rfl, (hg.trans q4.wide).trans (Gd.set q4.pool han (by simp)), set_get lt2, ⟨setK_nodup ht.nd, fun p hp => ?_⟩, by have := (setK_len (ts := ts) (x := x) (v := .int (1 + r))).2.1; omega, fun _ => setK_len.2.2⟩
      · rw [forB_var]
        refine (exs_sub (d := .int (1 + r)) (x := .ref s1.length) (y := .str x) (s1 := s2) (s2 := s2) (s3 := s2) ?_ rfl rfl pl).trans rfl
        walk_at "ev"
      · rcases mem_setK hp with hp | rfl
        · exact ht.all p hp.1
        · exact ⟨hx x hmem, 1 + r, rfl, by omega, by omega⟩) ⟨[], none, rfl, (Gd.refl g2.pool).wide, by simp [DK], ⟨by simp, by simp⟩, by simp, by omega⟩
  rw [List.length_map] at hle hge
  have l6 := g1.len p
  refine ⟨s1.length, s', ts, call_rt b.h298 (τ := [some (.ref n), some (.int m), some (.int wd), none, none, none]) rfl rfl ?_, (((g1.trans g2).wide).trans hg).drop (fun q hq => by simp at hq; omega), hat, ht, by omega, fun hm => hge (by omega), l6⟩
  refine (exs_asg (d := .ref l) (s' := s1) (by walk_at "ev")).trans ?_
  refine (exs_asg (d := .ref s1.length) (s' := s1 ++ [.dct []]) rfl).trans ?_
  refine (exs_nx (τ' := [some (.ref n), some (.int m), some (.int wd), some (.ref l), some (.ref s1.length), c]) ?_).trans (exs_ret (d := .ref s1.length) rfl)
  exact (ex_for (ds := [.ref l]) (s1 := s1 ++ [O.dct []]) (src := .lst l (xs.map .str)) rfl (by simp only [srcOf, lstAt_of l2, Option.map_some])).trans h1
/-! ### keys -/
structure KyS (ts ks : List (Str × D)) : Prop where
  nd : (ks.map (·.1)).Nodup
  all : ∀ p ∈ ks, ∃ w, getK ts p.1 = some (.int w) ∧ keyB w p.2 = true
theorem KyS.kok {ts ks : List (Str × D)} (h : KyS ts ks) : KOk ts ks := fun x d e => h.all _ (mem_getK e)
theorem draw_keys {Γ : Ga} (b : BD Γ) {k : Nat} (hk : 4 ≤ k) {s : S} {n t : Nat} {wd : Int} {ts : List (Str × D)} (p : PoolAt n s) (ht : s[t]? = some (.dct (DK ts))) (hts : TbS wd ts) (hl : ts.length ≤ 50) (hw : wd ≤ 1000) :
    ∃ (a : Nat) (s' : S) (ks : List (Str × D)), (clF Γ k).call 210 [.ref n, .ref t] s = .ok (.ref a) s' ∧ Gd n [] s s' ∧ s'[a]? = some (.dct (DK ks)) ∧ KyS ts ks ∧ ks.length ≤ ts.length ∧ s.length ≤ a := by
  obtain ⟨j, rfl, hj⟩ := lv hk
  have g1 := Gd.new p (.dct [])
  have htn := p.ne_dct ht
  have han : s.length ≠ n := p.ne (Nat.le_refl _)
  have t1 := g1.at htn ht
  have hta : t ≠ s.length := by have := (List.getElem?_eq_some_iff.mp ht).1; omega
  have g2 := Gd.new g1.pool (.lst ((ts.map (·.1)).map .str))
  have hln : (s ++ [O.dct []]).length ≠ n := g1.pool.ne (Nat.le_refl _)
  have hla : (s ++ [O.dct []]).length ≠ s.length := by simp
  have l2 : ((s ++ [O.dct []]) ++ [O.lst ((ts.map (·.1)).map .str)])[(s ++ [O.dct []]).length]? = some (.lst ((ts.map (·.1)).map .str)) := new_at
  have hll := list_dct t1
  let I : Nat → Fr → S → Prop := fun i τ s' => ∃ (ks : List (Str × D)) (c : Option D), τ = [some (.ref n), some (.ref t), some (.ref s.length), c] ∧ Gd n [s.length] ((s ++ [.dct []]) ++ [.lst ((ts.map (·.1)).map .str)]) s' ∧ s'[s.length]? = some (.dct (DK ks)) ∧ KyS ts ks ∧ ks.length ≤ i
  obtain ⟨τ', s', h1, ks, c, rfl, hg, hat, hks, hle⟩ := forS_inv (ok := (Src.lst (s ++ [O.dct []]).length ((ts.map (·.1)).map .str)).ok) (g := forB (clF Γ j) (.var 3) (.cons (.ite (.and (.cmp .gt (.ix (.var 1) (.var 3)) (.cst (.int 1))) (.cmp .eq (.call 148 (.cons (.var 0) (.cons (.cst (.int 3)) .nil))) (.cst (.int 0)))) (.cons (.asg (.sub (.var 2) (.var 3)) (.call 136 (.cons (.var 0) (.cons (.ix (.var 1) (.var 3)) (.cons (.cst (.int 1)) (.cons (.bin .sub (.ix (.var 1) (.var 3)) (.cst (.int 1))) .nil)))))) .nil) (.nil)) .nil))
    (items := (ts.map (·.1)).map .str) (τ := [some (.ref n), some (.ref t), some (.ref s.length), none]) (s := (s ++ [.dct []]) ++ [.lst ((ts.map (·.1)).map .str)]) I (fun i τ s' ⟨ks, c, _, hg, _⟩ => lstAt_of (hg.keep _ _ hln (by simpa using hla) l2)) (fun i d τ s' hi ⟨ks, c, hτ, hg, hat, hks, hle⟩ => by
      subst hτ
      rw [List.getElem?_map, Option.map_eq_some_iff] at hi
      obtain ⟨x, hxi, rfl⟩ := hi
      have hil := (List.getElem?_eq_some_iff.mp hxi).1
      rw [List.length_map] at hil
      obtain ⟨d, hd, _⟩ := getK_mem (List.mem_of_getElem? hxi)
      obtain ⟨hwx, w, rfl, w1, w2⟩ := hts.at hd
      have t2 := hg.keep _ _ htn (by simpa using hta) (g2.at htn t1)
      have ix := ix_dct t2 (x := x) (by rw [getK_DK]; exact hd)
      have skip : ∀ {s2 : S}, Gd n [] s' s2 → evT (clF Γ j) (.and (.cmp .gt (.ix (.var 1) (.var 3)) (.cst (.int 1))) (.cmp .eq (.call 148 (.cons (.var 0) (.cons (.cst (.int 3)) .nil))) (.cst (.int 0)))) [some (.ref n), some (.ref t), some (.ref s.length), some (.str x)] s' = .ok false s2 → ∃ τ' s3, forB (clF Γ j) (.var 3) (.cons (.ite (.and (.cmp .gt (.ix (.var 1) (.var 3)) (.cst (.int 1))) (.cmp .eq (.call 148 (.cons (.var 0) (.cons (.cst (.int 3)) .nil))) (.cst (.int 0)))) (.cons (.asg (.sub (.var 2) (.var 3)) (.call 136 (.cons (.var 0) (.cons (.ix (.var 1) (.var 3)) (.cons (.cst (.int 1)) (.cons (.bin .sub (.ix (.var 1) (.var 3)) (.cst (.int 1))) .nil)))))) .nil) (.nil)) .nil) (.str x) [some (.ref n), some (.ref t), some (.ref s.length), c] s' = .nx τ' s3 ∧ I (i + 1) τ' s3 := fun g3 hc =>
        ⟨_, _, by rw [forB_var]; exact (exs_skip hc).trans rfl, ks, some (.str x), rfl, hg.trans g3.wide, g3.at han hat, hks, by omega⟩
      by_cases hw1 : 1 < w
      · obtain ⟨r, s2, q1, q2, q3, q4⟩ := draw b (k := j) (by omega) (m := 3) hg.pool (by decide) (by decide)
        have c1 : evT (clF Γ j) (.and (.cmp .gt (.ix (.var 1) (.var 3)) (.cst (.int 1))) (.cmp .eq (.call 148 (.cons (.var 0) (.cons (.cst (.int 3)) .nil))) (.cst (.int 0)))) [some (.ref n), some (.ref t), some (.ref s.length), some (.str x)] s' = .ok (r == 0) s2 := by
          have : cmpD .gt (.int w) (.int 1) s' = .ok true s' := congrArg (fun z => R.ok z s') (decide_eq_true hw1)
          walk_at "ev"
        cases hr : (r == 0) with
        | false => rw [hr] at c1; exact skip q4 c1
        | true =>
          rw [hr] at c1
          have t3 := q4.at htn t2
          have ix3 := ix_dct t3 (x := x) (by rw [getK_DK]; exact hd)
          obtain ⟨g, s3, f1, f2, f3, f4, f5⟩ := draw_columns b (k := j) (by omega) (w := w) (lo := 1) (hi := w - 1) q4.pool w1 (by omega) (by omega) (by omega) (by omega)
          have hat3 := f2.at han (q4.at han hat)
          have pl := put_dct (x := x) (v := .tup g) hat3 (by omega)
          have lt3 := (List.getElem?_eq_some_iff.mp hat3).1
          refine ⟨_, _, ?_, setK ks x (.tup g), some (.str x), rfl, ((hg.trans q4.wide).trans f2.wide).trans (Gd.set f2.pool han (by simp)), set_get lt3, ⟨setK_nodup hks.nd, fun p hp => ?_⟩, by have := (setK_len (ts := ks) (x := x) (v := .tup g)).2.1; omega⟩
          · rw [forB_var]
            refine (exs_nx ((ite_t c1).trans ((exs_sub (d := .tup g) (x := .ref s.length) (y := .str x) (s1 := s3) (s2 := s3) (s3 := s3) ?_ rfl rfl pl).trans rfl))).trans rfl
            walk_at "ev"
          · rcases mem_setK hp with hp | rfl
            · exact hks.all p hp.1
            · refine ⟨w, hd, ?_⟩
              show (colsB (-1) w g && _) = true
              rw [f3, Bool.true_and, Bool.and_eq_true]
              exact ⟨decide_eq_true (by omega), decide_eq_true (by omega)⟩
      · refine skip (Gd.refl hg.pool) ?_
        have : cmpD .gt (.int w) (.int 1) s' = .ok false s' := congrArg (fun z => R.ok z s') (decide_eq_false hw1)
        walk_at "ev") ⟨[], none, rfl, (Gd.refl g2.pool).wide, g2.at han (by simp [DK]), ⟨by simp, by simp⟩, by simp⟩
  rw [List.length_map, List.length_map] at hle
  refine ⟨s.length, s', ks, call_rt b.h210 (τ := [some (.ref n), some (.ref t), none, none]) rfl rfl ?_, (((g1.trans g2).wide).trans hg).drop (fun q hq => by simp at hq; omega), hat, hks, hle, Nat.le_refl _⟩
  refine (exs_asg (d := .ref s.length) (s' := s ++ [.dct []]) rfl).trans ?_
  refine (exs_nx (τ' := [some (.ref n), some (.ref t), some (.ref s.length), c]) ?_).trans (exs_ret (d := .ref s.length) rfl)
  exact (ex_for (ds := [.ref (s ++ [O.dct []]).length]) (s1 := (s ++ [O.dct []]) ++ [O.lst ((ts.map (·.1)).map .str)]) (src := .lst (s ++ [O.dct []]).length ((ts.map (·.1)).map .str)) (by walk_at "ev") (by simp only [srcOf, lstAt_of l2, Option.map_some])).trans h1
end SL

set_option Elab.async false
set_option linter.all false
set_option maxRecDepth 100000
set_option autoImplicit false
set_option maxHeartbeats 1000000
/-! SLt: the parts of a schema, drawn: services; all three. -/
namespace SL
open PySem L2 G
local macro_rules | `(tactic| walk_at "ev") => `(tactic| simp only [evE, evT, ev, evs, plainT, asB, evPart, List.getElem?_cons_zero, List.getElem?_cons_succ, List.set_cons_zero, List.set_cons_succ, Cst.d, Ex.isNop, R.bind_ok, R.toS_ok, if_true, Bool.not_true, Bool.not_false, Bool.false_eq_true, if_false, addI, subI, eqI, *])
theorem len_lst {s : S} {n : Nat} {ds : List D} (h : s[n]? = some (.lst ds)) : bltD .len [.ref n] s = .ok (.int ds.length) s := by
  have e : dctOf s (.ref n) = none := dctOf_lst h
  simp only [bltD, e, seqOf, lstAt_of h]
/-- drawn services: one that is capped at most for each table -/
structure SvS (ts ks ss : List (Str × D)) : Prop where
  nd : (ss.map (·.1)).Nodup
  all : ∀ p ∈ ss, wordB p.1 = true ∧ isServD (DK ts) p.2 = true
  one : ∀ p ∈ ss, ∀ q ∈ ss, p.1 ≠ q.1 → wholeB ts ks p.2 = false → wholeB ts ks q.2 = false → tabS p.2 ≠ tabS q.2
def svBody : Cms := .cons (.asg (.loc (.var 10)) (.ix (.var 5) (.bin .mod (.var 9) (.blt .len (.cons (.var 5) .nil)))))
    (.cons (.asg (.loc (.var 11)) (.ix (.var 3) (.call 148 (.cons (.var 0) (.cons (.blt .len (.cons (.var 3) .nil)) .nil)))))
    (.cons (.asg (.loc (.var 12)) (.tup (.cons (.var 10) (.cons (.call 136 (.cons (.var 0) (.cons (.ix (.var 1) (.var 10)) (.cons (.cst (.int 0)) (.cons (.cst (.int 4)) .nil))))) (.cons (.var 11) .nil)))))
    (.cons (.ite (.not (.call 198 (.cons (.var 1) (.cons (.var 2) (.cons (.var 12) .nil))))) (.cons (.ite (.cmp .inn (.var 10) (.var 8)) (.cons (.asg (.loc (.var 12)) (.tup (.cons (.var 10) (.cons (.ix (.var 12) (.cst (.int 1))) (.cons (.cst .non) .nil))))) .nil) (.cons (.expr (.meth .append (.var 8) (.cons (.var 10) .nil))) .nil)) .nil) (.nil))
    (.cons (.asg (.sub (.var 7) (.ix (.var 6) (.var 9))) (.var 12)) .nil))))
theorem draw_services {Γ : Ga} (b : BD Γ) {k : Nat} (hk : 5 ≤ k) {s : S} {n t m cp : Nat} {wd more : Int} {ts ks : List (Str × D)} {cps : List D} (p : PoolAt n s) (ht : s[t]? = some (.dct (DK ts))) (hm : s[m]? = some (.dct (DK ks))) (hc : s[cp]? = some (.lst cps)) (cpn : cp ≠ n)
    (hts : TbS wd ts) (hks : KyS ts ks) (hl : ts.length ≤ 20) (hl1 : 1 ≤ ts.length) (hw : wd ≤ 1000) (hmore : 0 ≤ more) (hmore2 : more ≤ 20) (hcl : 1 ≤ cps.length) (hcl2 : cps.length ≤ 1000) (hcap : ∀ z ∈ cps, isCapD z = true) :
    ∃ (a : Nat) (s' : S) (ss : List (Str × D)), (clF Γ k).call 275 [.ref n, .ref t, .ref m, .ref cp, .int more] s = .ok (.ref a) s' ∧ Gd n [] s s' ∧ s'[a]? = some (.dct (DK ss)) ∧ SvS ts ks ss ∧ 1 ≤ ss.length ∧ (ss.length : Int) ≤ ts.length + more ∧ s.length ≤ a := by
  obtain ⟨j, rfl, hj⟩ := lv hk
  have htn := p.ne_dct ht
  have hmn := p.ne_dct hm
  -- order
  have g1 := Gd.new p (.lst ((ts.map (·.1)).map .str))
  have on : s.length ≠ n := p.ne (Nat.le_refl _)
  have o1 : (s ++ [O.lst ((ts.map (·.1)).map .str)])[s.length]? = some (.lst ((ts.map (·.1)).map .str)) := new_at
  have hll := list_dct ht
  have hol : bltD .len [.ref s.length] (s ++ [O.lst ((ts.map (·.1)).map .str)]) = .ok (.int (ts.length : Nat)) (s ++ [O.lst ((ts.map (·.1)).map .str)]) := by
    rw [len_lst o1]; simp
  -- names
  obtain ⟨l, s2, xs, e2, g2, l2, hlen, hx, hl0⟩ := draw_names b (k := j) hj g1.pool (m := (ts.length : Nat) + more) (by omega) (by omega)
  have ln : l ≠ n := g1.pool.ne hl0
  have G2 := g1.trans g2
  -- dict, list
  have g3 := Gd.new G2.pool (.dct [])
  have an : s2.length ≠ n := G2.pool.ne (Nat.le_refl _)
  have g4 := Gd.new g3.pool (.lst [])
  have fn : (s2 ++ [O.dct []]).length ≠ n := g3.pool.ne (Nat.le_refl _)
  have af : s2.length ≠ (s2 ++ [O.dct []]).length := by simp
  have low : ∀ {q : Nat} {o : O}, s2[q]? = some o → q ≠ s2.length ∧ q ≠ (s2 ++ [O.dct []]).length := fun h => by
    have := (List.getElem?_eq_some_iff.mp h).1
    simp; omega
  have o2 := g2.at on o1
  have t2 := G2.at htn ht
  have m2 := G2.at hmn hm
  have c2 := G2.at cpn hc
  have G34 := g3.trans g4
  have keep : ∀ {q : Nat} {o : O} {s' : S}, q ≠ n → s2[q]? = some o → Gd n [s2.length, (s2 ++ [O.dct []]).length] ((s2 ++ [O.dct []]) ++ [O.lst []]) s' → s'[q]? = some o := fun hq e g => g.keep _ _ hq (by
    obtain ⟨q1, q2⟩ := low e
    simp only [List.mem_cons, List.not_mem_nil, or_false]
    exact fun z => z.elim q1 q2) (G34.at hq e)
  have kok := hks.kok
  have kl : ∀ x cs, getK ks x = some (.tup cs) → cs.length < 2 ^ 20 := fun x cs e => by
    obtain ⟨w, h1, h2⟩ := kok _ _ e
    obtain ⟨_, w', h3, h4, h5⟩ := hts.at h1
    cases h3
    have : (colsB (-1) w cs && (decide (1 ≤ cs.length) && decide ((cs.length : Int) < w))) = true := h2
    simp only [Bool.and_eq_true, decide_eq_true_eq] at this
    omega
  let fr : Option D → Option D → Option D → Option D → Fr := fun x9 x10 x11 x12 => [some (.ref n), some (.ref t), some (.ref m), some (.ref cp), some (.int more), some (.ref s.length), some (.ref l), some (.ref s2.length), some (.ref (s2 ++ [O.dct []]).length), x9, x10, x11, x12]
  let I : Nat → Fr → S → Prop := fun i τ s' => ∃ (ss : List (Str × D)) (fl : List Str) (x9 x10 x11 x12 : Option D), τ = fr x9 x10 x11 x12 ∧ Gd n [s2.length, (s2 ++ [O.dct []]).length] ((s2 ++ [O.dct []]) ++ [O.lst []]) s' ∧ s'[s2.length]? = some (.dct (DK ss)) ∧ s'[(s2 ++ [O.dct []]).length]? = some (.lst (fl.map .str)) ∧
    SvS ts ks ss ∧ ss.length ≤ i ∧ fl.length ≤ i ∧ (1 ≤ i → 1 ≤ ss.length) ∧ (∀ y ∈ fl, Asc y) ∧ ∀ q ∈ ss, wholeB ts ks q.2 = false → tabS q.2 ∈ fl
  obtain ⟨τ', s', h1, ss, fl, x9, x10, x11, x12, rfl, hg, hat, hfl, hss, hle, _, hge, _, _⟩ := forS_inv (ok := (Src.vals (rngD 0 ((xs.length : Nat) : Int).toNat)).ok) (g := forB (clF Γ j) (.var 9) svBody)
    (items := rngD 0 ((xs.length : Nat) : Int).toNat) (τ := fr none none none none) (s := (s2 ++ [O.dct []]) ++ [O.lst []]) I (fun _ _ _ _ => trivial) (fun i d τ s' hi ⟨ss, fl, x9, x10, x11, x12, hτ, hg, hat, hfl, hss, hle, hfle, hge, hasc, hone⟩ => by
      subst hτ
      obtain ⟨hil, rfl⟩ := rng_at hi
      rw [Int.toNat_natCast] at hil
      -- the table
      obtain ⟨y, hy⟩ : ∃ y, (ts.map (·.1))[i % ts.length]? = some y := ⟨_, List.getElem?_eq_getElem (by rw [List.length_map]; exact Nat.mod_lt _ (by omega))⟩
      have ymem := List.mem_of_getElem? hy
      obtain ⟨dw, hd, _⟩ := getK_mem ymem
      obtain ⟨hwy, w, rfl, w1, w2⟩ := hts.at hd
      have o' := keep on o2 hg
      have t' := keep htn t2 hg
      have m' := keep hmn m2 hg
      have c' := keep cpn c2 hg
      have l' := keep ln l2 hg
      have v1 : bltD .len [.ref s.length] s' = .ok (.int (ts.length : Nat)) s' := by rw [len_lst o']; simp
      have v2 : binD .mod (.int (0 + (i : Nat))) (.int (ts.length : Nat)) s' = .ok (.int ((0 + (i : Nat)) % (ts.length : Nat))) s' := modD (by omega)
      have v3 : ixD (.ref s.length) (.int ((0 + (i : Nat)) % (ts.length : Nat))) s' = .ok (.str y) s' := by
        refine ixD_ref o' (Int.emod_nonneg _ (by omega)) ?_
        have : (((0 : Int) + (i : Nat)) % (ts.length : Nat)).toNat = i % ts.length := by
          rw [Int.zero_add, ← Int.natCast_emod, Int.toNat_natCast]
        rw [this, List.getElem?_map, hy]; rfl
      -- the cap
      have v4 := len_lst c'
      obtain ⟨r, s3, q1, q2, q3, q4⟩ := draw b (k := j) (by omega) (m := (cps.length : Nat)) hg.pool (by omega) (by omega)
      obtain ⟨z, hz⟩ : ∃ z, cps[r.toNat]? = some z := ⟨_, List.getElem?_eq_getElem (by omega)⟩
      have hcz := hcap z (List.mem_of_getElem? hz)
      have v5 := ixD_ref (q4.at cpn c') q2 hz
      -- the columns
      have t3 := q4.at htn t'
      have v6 := ix_dct t3 (x := y) (by rw [getK_DK]; exact hd)
      obtain ⟨g, s4, f1, f2, f3, f4, f5⟩ := draw_columns b (k := j) (by omega) (w := w) (lo := 0) (hi := 4) q4.pool w1 (by omega) (by omega) (by omega) (by omega)
      -- is it whole
      have Q4 := q4.trans f2
      have hserv : ∀ c, isCapD c = true → isServD (DK ts) (.tup [.str y, .tup g, c]) = true := fun c hc => by
        simp only [isServD, getK_DK, hd, hwy, isColsD, f3, hc, Bool.and_self]
      obtain ⟨s5, u1, u2⟩ := l_whole b.toBW (k := j) (by omega) (Q4.at htn t') (Q4.at hmn m') kok ⟨y, g, z, w, rfl, hd, f3⟩ kl
      have Q5 := Q4.trans (Gd.of_gp Q4.pool u1)
      have a5 := Q5.at an hat
      have fl5 := Q5.at fn hfl
      have l5 := Q5.at ln l'
      obtain ⟨xn, hxn⟩ : ∃ xn, xs[i]? = some xn := ⟨_, List.getElem?_eq_getElem hil⟩
      have hxw := hx xn (List.mem_of_getElem? hxn)
      have step1 : ∀ cs, exs (clF Γ j) (.cons (.asg (.loc (.var 10)) (.ix (.var 5) (.bin .mod (.var 9) (.blt .len (.cons (.var 5) .nil)))))
    (.cons (.asg (.loc (.var 11)) (.ix (.var 3) (.call 148 (.cons (.var 0) (.cons (.blt .len (.cons (.var 3) .nil)) .nil)))))
    (.cons (.asg (.loc (.var 12)) (.tup (.cons (.var 10) (.cons (.call 136 (.cons (.var 0) (.cons (.ix (.var 1) (.var 10)) (.cons (.cst (.int 0)) (.cons (.cst (.int 4)) .nil))))) (.cons (.var 11) .nil))))) cs))) (fr (some (.int (0 + (i : Nat)))) x10 x11 x12) s' = exs (clF Γ j) cs (fr (some (.int (0 + (i : Nat)))) (some (.str y)) (some z) (some (.tup [.str y, .tup g, z]))) s4 := fun cs => by
        refine (exs_asg (d := .str y) (s' := s') ?_).trans ((exs_asg (d := z) (s' := s3) ?_).trans ((exs_asg (d := .tup [.str y, .tup g, z]) (s' := s4) ?_).trans rfl))
        · show (ev _ _).1 (fr _ _ _ _) _ = _
          clear hg
          simp only [fr]
          walk_at "ev"
        · show (ev _ _).1 (fr _ (some (.str y)) _ _) _ = _
          clear hg
          simp only [fr]
          walk_at "ev"
        · show (ev _ _).1 (fr _ (some (.str y)) (some z) _) _ = _
          clear hg
          simp only [fr]
          walk_at "ev"
      have cond : evT (clF Γ j) (.not (.call 198 (.cons (.var 1) (.cons (.var 2) (.cons (.var 12) .nil))))) (fr (some (.int (0 + (i : Nat)))) (some (.str y)) (some z) (some (.tup [.str y, .tup g, z]))) s4 = .ok (!wholeB ts ks (.tup [.str y, .tup g, z])) s5 := by
        simp only [fr, evT, ev, evs, plainT, asB, List.getElem?_cons_zero, List.getElem?_cons_succ, R.bind_ok, u2, truD]
      -- the end of a turn
      have fin : ∀ (c : D) (fl' : List Str) (s6 : S), isCapD c = true → s6[s2.length]? = some (.dct (DK ss)) → s6[(s2 ++ [O.dct []]).length]? = some (.lst (fl'.map .str)) → s6[l]? = some (.lst (xs.map .str)) → Gd n [s2.length, (s2 ++ [O.dct []]).length] s' s6 → fl'.length ≤ i + 1 → (∀ y ∈ fl', Asc y) → (∀ y ∈ fl, y ∈ fl') →
          (wholeB ts ks (.tup [.str y, .tup g, c]) = false → y ∉ fl ∧ y ∈ fl') →
          exs (clF Γ j) (.cons (.asg (.sub (.var 7) (.ix (.var 6) (.var 9))) (.var 12)) .nil) (fr (some (.int (0 + (i : Nat)))) (some (.str y)) (some z) (some (.tup [.str y, .tup g, c]))) s6 = .nx (fr (some (.int (0 + (i : Nat)))) (some (.str y)) (some z) (some (.tup [.str y, .tup g, c]))) (s6.set s2.length (.dct (DK (setK ss xn (.tup [.str y, .tup g, c]))))) ∧
          I (i + 1) (fr (some (.int (0 + (i : Nat)))) (some (.str y)) (some z) (some (.tup [.str y, .tup g, c]))) (s6.set s2.length (.dct (DK (setK ss xn (.tup [.str y, .tup g, c]))))) := fun c fl' s6 hc h1 h2 h3 h4 h5 h6 h7 h8 => by
        have pl := put_dct (x := xn) (v := .tup [.str y, .tup g, c]) h1 (by omega)
        have lt := (List.getElem?_eq_some_iff.mp h1).1
        have ixn : ixD (.ref l) (.int (0 + (i : Nat))) s6 = .ok (.str xn) s6 := ixD_ref h3 (by omega) (by
          have : ((0 : Int) + (i : Nat)).toNat = i := by omega
          rw [this, List.getElem?_map, hxn]; rfl)
        refine ⟨(exs_sub (d := .tup [.str y, .tup g, c]) (x := .ref s2.length) (y := .str xn) (s1 := s6) (s2 := s6) (s3 := s6) rfl rfl ?_ pl).trans rfl, setK ss xn (.tup [.str y, .tup g, c]), fl', _, _, _, _, rfl, (hg.trans h4).trans (Gd.set h4.pool an (by simp)), set_get lt, by rw [List.getElem?_set_ne af]; exact h2, ⟨setK_nodup hss.nd, fun p hp => ?_, fun p hp q hq hne hp2 hq2 => ?_⟩, by have := (setK_len (ts := ss) (x := xn) (v := .tup [.str y, .tup g, c])).2.1; omega, h5, fun _ => setK_len.2.2, h6, fun q hq hq2 => ?_⟩
        · show (ev _ _).1 (fr _ _ _ _) _ = _
          simp only [fr, ev, plainT, List.getElem?_cons_zero, List.getElem?_cons_succ, R.bind_ok, ixn]
        · rcases mem_setK hp with hp | rfl
          · exact hss.all p hp.1
          · exact ⟨hxw, hserv c hc⟩
        · rcases mem_setK hp with hp | rfl
          · rcases mem_setK hq with hq | rfl
            · exact hss.one p hp.1 q hq.1 hne hp2 hq2
            · intro e
              have e : tabS p.2 = y := e
              exact (h8 hq2).1 (e ▸ hone p hp.1 hp2)
          · rcases mem_setK hq with hq | rfl
            · intro e
              have e : y = tabS q.2 := e
              exact (h8 hp2).1 (e ▸ hone q hq.1 hq2)
            · exact absurd rfl hne
        · rcases mem_setK hq with hq | rfl
          · exact h7 _ (hone q hq.1 hq2)
          · exact (h8 hq2).2
      have W5 : Gd n [s2.length, (s2 ++ [O.dct []]).length] s' s5 := Q5.wide
      cases hwh : wholeB ts ks (.tup [.str y, .tup g, z]) with
      | true =>
        rw [hwh] at cond
        obtain ⟨k1, k2⟩ := fin z fl s5 hcz a5 fl5 l5 W5 (by omega) hasc (fun _ h => h) (fun h => by rw [hwh] at h; cases h)
        refine ⟨_, _, ?_, k2⟩
        rw [forB_var]
        exact (step1 _).trans ((exs_skip cond).trans k1)
      | false =>
        rw [hwh] at cond
        have ii := inn_strs fl5 (wordB_asc hwy) hasc
        have c3 : evT (clF Γ j) (.cmp .inn (.var 10) (.var 8)) (fr (some (.int (0 + (i : Nat)))) (some (.str y)) (some z) (some (.tup [.str y, .tup g, z]))) s5 = .ok (decide (y ∈ fl)) s5 := by
          simp only [fr, evT, ev, plainT, asB, List.getElem?_cons_zero, List.getElem?_cons_succ, R.bind_ok, ii]
        by_cases hin : y ∈ fl
        · rw [decide_eq_true hin] at c3
          obtain ⟨k1, k2⟩ := fin .non fl s5 rfl a5 fl5 l5 W5 (by omega) hasc (fun _ h => h) (fun h => by simp [wholeB, D.isNon] at h)
          refine ⟨_, _, ?_, k2⟩
          rw [forB_var]
          refine (step1 _).trans ((exs_nx ((ite_t cond).trans ((exs_nx ((ite_t c3).trans ((exs_asg (d := .tup [.str y, .tup g, .non]) (s' := s5) ?_).trans rfl))).trans rfl))).trans k1)
          rfl
        · rw [decide_eq_false hin] at c3
          have lt5 := (List.getElem?_eq_some_iff.mp fl5).1
          have ap := append_lst (d := .str y) fl5 (by rw [List.length_map]; omega)
          have hms : mSel .append (.ref (s2 ++ [O.dct []]).length) s5 = some .lappend := by simp only [mSel, fl5]; rfl
          obtain ⟨k1, k2⟩ := fin z (fl ++ [y]) (s5.set (s2 ++ [O.dct []]).length (.lst (fl.map .str ++ [.str y]))) hcz (by rw [List.getElem?_set_ne (Ne.symm af)]; exact a5) (by rw [set_get lt5]; simp) (by rw [List.getElem?_set_ne (Ne.symm (low l2).2)]; exact l5) (W5.trans (Gd.set W5.pool fn (by simp))) (by simp; omega) (fun q hq => by
            rcases List.mem_append.mp hq with h | h
            · exact hasc q h
            · simp at h; subst h; exact wordB_asc hwy) (fun q h => by simp [h]) (fun _ => ⟨hin, by simp⟩)
          refine ⟨_, _, ?_, k2⟩
          rw [forB_var]
          refine (step1 _).trans ((exs_nx ((ite_t cond).trans ((exs_nx ((ite_f c3).trans ((exs_expr (d := .non) (s' := s5.set (s2 ++ [O.dct []]).length (.lst (fl.map .str ++ [.str y]))) ?_).trans rfl))).trans rfl))).trans k1)
          simp only [fr, evE, ev, evs, plainT, List.getElem?_cons_zero, List.getElem?_cons_succ, R.bind_ok, hms, ap]) ⟨[], [], none, none, none, none, rfl, (Gd.refl G34.pool).wide, g4.at an (by simp [DK]), by simp, ⟨by simp, by simp, by simp⟩, by simp, by simp, by omega, by simp, by simp⟩
  rw [rng_len, Int.toNat_natCast] at hle hge
  have lG := G2.len p
  refine ⟨s2.length, s', ss, call_rt b.h275 (τ := [some (.ref n), some (.ref t), some (.ref m), some (.ref cp), some (.int more), none, none, none, none, none, none, none, none]) rfl rfl ?_, (((G2.trans G34).wide).trans hg).drop (fun q hq => by
    simp only [List.mem_cons, List.not_mem_nil, or_false] at hq
    rcases hq with rfl | rfl
    · exact lG
    · simp; omega), hat, hss, hge (by omega), by omega, lG⟩
  have ll2 : bltD .len [.ref l] ((s2 ++ [O.dct []]) ++ [O.lst []]) = .ok (.int (xs.length : Nat)) ((s2 ++ [O.dct []]) ++ [O.lst []]) := by
    rw [len_lst (G34.at ln l2)]; simp
  refine (exs_asg (d := .ref s.length) (s' := s ++ [O.lst ((ts.map (·.1)).map .str)]) (by walk_at "ev")).trans ?_
  refine (exs_asg (d := .ref l) (s' := s2) (by walk_at "ev")).trans ?_
  refine (exs_asg (d := .ref s2.length) (s' := s2 ++ [O.dct []]) rfl).trans ?_
  refine (exs_asg (d := .ref (s2 ++ [O.dct []]).length) (s' := (s2 ++ [O.dct []]) ++ [O.lst []]) rfl).trans ?_
  refine (exs_nx (τ' := fr x9 x10 x11 x12) ?_).trans (exs_ret (d := .ref s2.length) rfl)
  exact (ex_for (ds := [.int (xs.length : Nat)]) (s1 := (s2 ++ [O.dct []]) ++ [O.lst []]) (src := .vals (rngD 0 ((xs.length : Nat) : Int).toNat)) (by
    show evs _ _ (fr none none none none) _ = _
    simp only [fr, evs, ev, plainT, List.getElem?_cons_zero, List.getElem?_cons_succ, R.bind_ok, ll2]) (src_rng (by omega) (by omega) _)).trans h1
structure BD2 (Γ : Ga) : Prop extends BD Γ where
  h274 : Γ.fns.lookup 274 = some f274
  h247 : Γ.fns.lookup 247 = some f247
theorem draw_parts {Γ : Ga} (b : BD2 Γ) {k : Nat} (hk : 6 ≤ k) {s : S} {n cp : Nat} {many wd more : Int} {cps : List D} (p : PoolAt n s) (hc : s[cp]? = some (.lst cps)) (cpn : cp ≠ n) (h1 : 1 ≤ many) (h2 : many ≤ 20) (hw1 : 1 ≤ wd) (hw : wd ≤ 1000) (hmore : 0 ≤ more) (hmore2 : more ≤ 20) (hcl : 1 ≤ cps.length) (hcl2 : cps.length ≤ 1000) (hcap : ∀ z ∈ cps, isCapD z = true) :
    ∃ (l t m q : Nat) (s' : S) (ts ks ss : List (Str × D)), (clF Γ k).call 274 [.ref n, .int many, .int wd, .ref cp, .int more] s = .ok (.ref l) s' ∧ Gd n [] s s' ∧ s'[l]? = some (.lst [.ref t, .ref m, .ref q]) ∧ s'[t]? = some (.dct (DK ts)) ∧ s'[m]? = some (.dct (DK ks)) ∧ s'[q]? = some (.dct (DK ss)) ∧
      TbS wd ts ∧ KyS ts ks ∧ SvS ts ks ss ∧ 1 ≤ ts.length ∧ (ts.length : Int) ≤ many ∧ ks.length ≤ ts.length ∧ 1 ≤ ss.length ∧ (ss.length : Int) ≤ ts.length + more ∧ s.length ≤ t ∧ t < m ∧ m < q ∧ q < l := by
  obtain ⟨j, rfl, hj⟩ := lv hk
  obtain ⟨t, s1, ts, a1, a2, a3, a4, a5, a6, a7⟩ := draw_tables b.toBD (k := j) hj (m := many) (wd := wd) p (by omega) (by omega) hw1 hw
  obtain ⟨m, s2, ks, b1, b2, b3, b4, b5, b6⟩ := draw_keys b.toBD (k := j) (by omega) a2.pool a3 a4 (by omega) hw
  have tn := a2.pool.ne_dct a3
  have t2 := b2.at tn a3
  have g2 := a2.trans b2
  obtain ⟨q, s3, ss, c1, c2, c3, c4, c5, c6, c7⟩ := draw_services b.toBD (k := j) hj (more := more) g2.pool t2 b3 (g2.at cpn hc) cpn a4 b4 (by omega) (a6 h1) hw hmore hmore2 hcl hcl2 hcap
  have mn := b2.pool.ne_dct b3
  have qn := c2.pool.ne_dct c3
  have g3 := g2.trans c2
  have g4 := Gd.new g3.pool (.lst [.ref t, .ref m, .ref q])
  have lt1 := (List.getElem?_eq_some_iff.mp a3).1
  have lt2 := (List.getElem?_eq_some_iff.mp b3).1
  have lt3 := (List.getElem?_eq_some_iff.mp c3).1
  refine ⟨s3.length, t, m, q, _, ts, ks, ss, call_rt b.h274 (τ := [some (.ref n), some (.int many), some (.int wd), some (.ref cp), some (.int more), none, none]) rfl rfl ?_, g3.trans g4, new_at, g4.at tn (c2.at tn t2), g4.at mn (c2.at mn b3), g4.at qn c3, a4, b4, c4, a6 h1, a5, b5, c5, c6, a7, by omega, by omega, lt3⟩
  refine (exs_asg (d := .ref t) (s' := s1) (by walk_at "ev")).trans ?_
  refine (exs_asg (d := .ref m) (s' := s2) (by walk_at "ev")).trans ?_
  refine exs_ret ?_
  walk_at "ev"
  rfl
/-- one of a list -/
theorem draw_pick {Γ : Ga} (b : BD2 Γ) {k : Nat} (hk : 3 ≤ k) {s : S} {n l : Nat} {ds : List D} (p : PoolAt n s) (hl : s[l]? = some (.lst ds)) (ln : l ≠ n) (h1 : 1 ≤ ds.length) (h2 : ds.length ≤ 10000) :
    ∃ d s', (clF Γ k).call 247 [.ref n, .ref l] s = .ok d s' ∧ d ∈ ds ∧ Gd n [] s s' := by
  obtain ⟨j, rfl, hj⟩ := lv hk
  have v := len_lst hl
  obtain ⟨r, s2, q1, q2, q3, q4⟩ := draw b.toBD (k := j) hj (m := (ds.length : Nat)) p (by omega) (by omega)
  obtain ⟨z, hz⟩ : ∃ z, ds[r.toNat]? = some z := ⟨_, List.getElem?_eq_getElem (by omega)⟩
  have ix := ixD_ref (q4.at ln hl) q2 hz
  refine ⟨z, s2, call_rt b.h247 (τ := [some (.ref n), some (.ref l)]) rfl rfl (exs_ret ?_), List.mem_of_getElem? hz, q4⟩
  walk_at "ev"
/-- what a schema without a fault holds, as data -/
theorem fine_data {ts ks ss : List (Str × D)} (h : sfault ts ks ss = none) : (∀ x d, getK ts x = some d → dataD 3 d) ∧ (∀ x d, getK ks x = some d → dataD 3 d) ∧ ∀ x d, getK ss x = some d → dataD 3 d := by
  unfold sfault at h
  split at h
  · cases h
  rename_i e1
  split at h
  · cases h
  rename_i e2
  split at h
  · cases h
  rename_i e3
  have tok := tok_of e1
  have wok := wok_of e1
  have kok := kok_of tok e2
  have srv := serv_of e3
  have cols : ∀ {l w : Int} {g : List D} {k : Nat}, colsB l w g = true → dataD (k + 1) (.tup g) := fun h => by
    simp only [dataD]
    intro z hz
    obtain ⟨i, rfl⟩ := colsB_int h z hz
    exact data_fl (d := .int i) trivial
  refine ⟨fun x d e => ?_, fun x d e => ?_, fun x d e => ?_⟩
  · obtain ⟨w, rfl⟩ := tok _ _ e
    exact data_fl (d := .int w) trivial
  · obtain ⟨w, _, h5⟩ := kok _ _ e
    cases d <;> first
      | (cases h5; done)
      | (simp only [keyB, Bool.and_eq_true] at h5
         exact cols h5.1)
  · obtain ⟨d', h1, h2⟩ := srv x (mem_sortT.mpr (mem_of_getK e))
    rw [e] at h1
    cases h1
    obtain ⟨t, g, c, w, rfl, t1, t2, t3⟩ := serv_shape h2
    simp only [dataD]
    intro z hz
    simp only [List.mem_cons, List.not_mem_nil, or_false] at hz
    rcases hz with rfl | rfl | rfl
    · exact data_fl (d := .str t) (wordB_asc (wok _ _ t1))
    · exact cols t2
    · cases z <;> first
        | (cases t3; done)
        | exact data_fl (d := .non) trivial
        | exact data_fl (d := .int _) trivial
theorem init76.gp {s s' : S} {b i : Nat} {ts ks ss W C : List (Str × D)} (h : init76 s b i ts ks ss W C) (g : Gp s s') : init76 s' b i ts ks ss W C := by
  obtain ⟨f1, f2, f3, f4, f5, hb, e0, e1, e2, e3, e4, e5⟩ := h
  exact ⟨f1, f2, f3, f4, f5, hb, g _ _ e0, g _ _ e1, g _ _ e2, g _ _ e3, g _ _ e4, g _ _ e5⟩
end SL

set_option Elab.async false
set_option linter.all false
set_option maxRecDepth 100000
set_option autoImplicit false
set_option maxHeartbeats 1000000
/-! SMa: the methods of a schema. -/
namespace SL
open PySem PySem.Spec PyProof.Rows L2 G
/-- 112: _law_asked -/
def b112 : Cms := .cons (.try_ (.cons (.ite (.cmp .eq (.var 2) (.cst (.int 0))) (.cons (.ret (.tup (.cons (.cst (.str "told")) (.cons (.mc "width_of" (.var 0) (.cons (.var 1) .nil)) .nil)))) .nil) (.nil))
    (.cons (.ite (.cmp .eq (.var 2) (.cst (.int 1))) (.cons (.ret (.tup (.cons (.cst (.str "told")) (.cons (.mc "key_of" (.var 0) (.cons (.var 1) .nil)) .nil)))) .nil) (.nil))
    (.cons (.ite (.cmp .eq (.var 2) (.cst (.int 2))) (.cons (.ret (.tup (.cons (.cst (.str "told")) (.cons (.mc "service_of" (.var 0) (.cons (.var 1) .nil)) .nil)))) .nil) (.nil))
    (.cons (.ret (.tup (.cons (.cst (.str "told")) (.cons (.mc "is_whole" (.var 0) (.cons (.var 1) .nil)) .nil)))) .nil)))) (.cons "UnknownName" (some 3) (.cons (.ret (.tup (.cons (.cst (.str "unknown")) (.cons (.efld 3 "name") (.cons (.eis 3 "CappedError") .nil))))) .nil) .nil)) .nil
def f112 : Fn := ⟨3, 4, b112⟩
/-- 150: _law_due -/
def b150 : Cms := .cons (.ite (.cmp .lt (.var 4) (.cst (.int 2))) (.cons (.ite (.cmp .nin (.var 3) (.var 0)) (.cons (.ret (.tup (.cons (.cst (.str "unknown")) (.cons (.var 3) (.cons (.cst (.bl true)) .nil))))) .nil) (.nil))
    (.cons (.ite (.cmp .eq (.var 4) (.cst (.int 0))) (.cons (.ret (.tup (.cons (.cst (.str "told")) (.cons (.ix (.var 0) (.var 3)) .nil)))) .nil) (.nil))
    (.cons (.ret (.tup (.cons (.cst (.str "told")) (.cons (.meth .get (.var 1) (.cons (.var 3) .nil)) .nil)))) .nil))) (.nil))
    (.cons (.ite (.cmp .nin (.var 3) (.var 2)) (.cons (.ret (.tup (.cons (.cst (.str "unknown")) (.cons (.var 3) (.cons (.cst (.bl true)) .nil))))) .nil) (.nil))
    (.cons (.ite (.cmp .eq (.var 4) (.cst (.int 2))) (.cons (.ret (.tup (.cons (.cst (.str "told")) (.cons (.ix (.var 2) (.var 3)) .nil)))) .nil) (.nil))
    (.cons (.ret (.tup (.cons (.cst (.str "told")) (.cons (.call 198 (.cons (.var 0) (.cons (.var 1) (.cons (.ix (.var 2) (.var 3)) .nil)))) .nil)))) .nil)))
def f150 : Fn := ⟨5, 5, b150⟩
/-- 178: _law_holds -/
def b178 : Cms := .cons (.ite (.or (.cmp .ne (.fld (.var 0) "tables") (.var 1)) (.or (.cmp .ne (.fld (.var 0) "key_columns") (.var 2)) (.cmp .ne (.fld (.var 0) "services") (.var 3)))) (.cons (.ret (.cst (.bl false))) .nil) (.nil))
    (.cons (.ite (.or (.cmp .ne (.mc "table_names" (.var 0) .nil) (.blt .sorted (.cons (.blt .list (.cons (.var 1) .nil)) .nil))) (.cmp .ne (.mc "service_names" (.var 0) .nil) (.blt .sorted (.cons (.blt .list (.cons (.var 3) .nil)) .nil)))) (.cons (.ret (.cst (.bl false))) .nil) (.nil))
    (.cons (.asg (.loc (.var 5)) (.lc (.var 6) (.var 6) .seq (.cons (.blt .sorted (.cons (.blt .list (.cons (.var 3) .nil)) .nil)) .nil) (.not (.call 198 (.cons (.var 1) (.cons (.var 2) (.cons (.ix (.var 3) (.var 6)) .nil))))) [("_law_name", 6)]))
    (.cons (.ite (.cmp .ne (.mc "capped_names" (.var 0) .nil) (.var 5)) (.cons (.ret (.cst (.bl false))) .nil) (.nil))
    (.cons (.for_ (.var 6) .seq (.cons (.bin .add (.bin .add (.blt .list (.cons (.var 1) .nil)) (.blt .list (.cons (.var 3) .nil))) (.var 4)) .nil) (.cons (.for_ (.var 7) .rng1 (.cons (.cst (.int 4)) .nil) (.cons (.ite (.cmp .ne (.call 112 (.cons (.var 0) (.cons (.var 6) (.cons (.var 7) .nil)))) (.call 150 (.cons (.var 1) (.cons (.var 2) (.cons (.var 3) (.cons (.var 6) (.cons (.var 7) .nil))))))) (.cons (.ret (.cst (.bl false))) .nil) (.nil))
    (.cons (.ite (.and (.cmp .eq (.var 7) (.cst (.int 3))) (.and (.cmp .inn (.var 6) (.var 3)) (.not (.isi (.mc "is_whole" (.var 0) (.cons (.var 6) .nil)) .bool)))) (.cons (.ret (.cst (.bl false))) .nil) (.nil)) .nil))) .nil))
    (.cons (.ret (.cst (.bl true))) .nil)))))
def f178 : Fn := ⟨5, 8, b178⟩
/-- 84: Schema.table_names -/
def b84 : Cms := .cons (.ret (.blt .list (.cons (.fld (.var 0) "width_table") .nil))) .nil
def f84 : Fn := ⟨1, 1, b84⟩
/-- 81: Schema.service_names -/
def b81 : Cms := .cons (.ret (.blt .list (.cons (.fld (.var 0) "service_table") .nil))) .nil
def f81 : Fn := ⟨1, 1, b81⟩
/-- 87: Schema.width_of -/
def b87 : Cms := .cons (.ite (.cmp .nin (.var 1) (.fld (.var 0) "width_table")) (.cons (.rse "UnknownName" (.cons (.var 1) .nil)) .nil) (.nil))
    (.cons (.ret (.ix (.fld (.var 0) "width_table") (.var 1))) .nil)
def f87 : Fn := ⟨2, 2, b87⟩
/-- 80: Schema.key_of -/
def b80 : Cms := .cons (.ite (.cmp .nin (.var 1) (.fld (.var 0) "width_table")) (.cons (.rse "UnknownName" (.cons (.var 1) .nil)) .nil) (.nil))
    (.cons (.ret (.meth .get (.fld (.var 0) "key_table") (.cons (.var 1) .nil))) .nil)
def f80 : Fn := ⟨2, 2, b80⟩
/-- 82: Schema.service_of -/
def b82 : Cms := .cons (.ite (.cmp .nin (.var 1) (.fld (.var 0) "service_table")) (.cons (.rse "UnknownName" (.cons (.var 1) .nil)) .nil) (.nil))
    (.cons (.ret (.ix (.fld (.var 0) "service_table") (.var 1))) .nil)
def f82 : Fn := ⟨2, 2, b82⟩
/-- 78: Schema.is_whole -/
def b78 : Cms := .cons (.ite (.cmp .nin (.var 1) (.fld (.var 0) "service_table")) (.cons (.rse "UnknownName" (.cons (.var 1) .nil)) .nil) (.nil))
    (.cons (.ret (.ix (.fld (.var 0) "whole_table") (.var 1))) .nil)
def f78 : Fn := ⟨2, 2, b78⟩
/-- 77: Schema.capped_names -/
def b77 : Cms := .cons (.lk (.fld (.var 0) "service_table") (.ret (.lc (.var 1) (.var 1) .seq (.cons (.fld (.var 0) "service_table") .nil) (.not (.ix (.fld (.var 0) "whole_table") (.var 1))) [("name", 1)]))) .nil
def f77 : Fn := ⟨1, 2, b77⟩
end SL
namespace SL
open PySem L2 G
/-! ### what a made schema holds -/
theorem getK_map {ys : List Str} {f : Str → D} {x : Str} : getK (ys.map fun y => (y, f y)) x = if x ∈ ys then some (f x) else none := by
  induction ys with
  | nil => rfl
  | cons y ys ih =>
    unfold getK at ih ⊢
    rw [List.map_cons, List.find?_cons]
    by_cases e : y = x
    · subst e; simp
    · rw [decide_eq_false e]
      simp only [ih, List.mem_cons]
      have : ¬ x = y := fun z => e z.symm
      simp [this]
theorem getK_srt {ts : List (Str × D)} {x : Str} : getK (srt ts) x = getK ts x := by
  unfold srt
  rw [getK_map]
  by_cases h : x ∈ sortT (ts.map (·.1))
  · rw [if_pos h]
    obtain ⟨d, e, _⟩ := getK_mem (mem_sortT.mp h)
    rw [e]; rfl
  · rw [if_neg h]
    cases e : getK ts x with
    | none => rfl
    | some d => exact absurd (mem_sortT.mpr (mem_of_getK e)) h
theorem srt_names {ts : List (Str × D)} : (srt ts).map (·.1) = sortT (ts.map (·.1)) := by
  unfold srt
  rw [List.map_map]
  exact List.map_id _
/-- whole answers, of all services -/
theorem capL_W {ts ks ss : List (Str × D)} : ∀ (ys : List Str) (W C : List (Str × D)), (capL ts ks ss ys W C).1 = none → (capL ts ks ss ys W C).2.1 = W ++ ys.map fun y => (y, D.bl (wholeB ts ks ((getK ss y).getD .non)))
  | [], W, C, _ => by simp [capL]
  | y :: ys, W, C, h => by
    simp only [capL] at h ⊢
    split at h
    · rename_i hw
      rw [if_pos hw, capL_W ys _ _ h]
      simp [hw]
    · rename_i hw
      rw [if_neg hw]
      split at h
      · cases h
      · rename_i hm
        rw [if_neg hm, capL_W ys _ _ h]
        simp [hw]
/-- one capped service at most for each table: none is refused -/
theorem capL_none {ts ks ss : List (Str × D)} (h1 : ∀ p ∈ ss, ∀ q ∈ ss, p.1 ≠ q.1 → wholeB ts ks p.2 = false → wholeB ts ks q.2 = false → tabS p.2 ≠ tabS q.2) :
    ∀ (ys : List Str) (W C : List (Str × D)), ys.Nodup → (∀ y ∈ ys, y ∈ ss.map (·.1)) → (∀ c ∈ C, ∃ p ∈ ss, wholeB ts ks p.2 = false ∧ tabS p.2 = c.1 ∧ p.1 ∉ ys) → (capL ts ks ss ys W C).1 = none
  | [], W, C, _, _, _ => rfl
  | y :: ys, W, C, hn, hm, hc => by
    obtain ⟨d, hd, hmem⟩ := getK_mem (hm y (by simp))
    have hn := List.nodup_cons.mp hn
    simp only [capL, hd, Option.getD_some]
    split
    · exact capL_none h1 ys _ _ hn.2 (fun z hz => hm z (by simp [hz])) fun c h => by
        obtain ⟨p, a1, a2, a3, a4⟩ := hc c h
        exact ⟨p, a1, a2, a3, fun z => a4 (by simp [z])⟩
    · rename_i hw
      have hw : wholeB ts ks d = false := by simpa using hw
      split
      · rename_i hin
        obtain ⟨c, hc1, hc2⟩ := List.mem_map.mp hin
        obtain ⟨p, a1, a2, a3, a4⟩ := hc c hc1
        have ne : p.1 ≠ y := fun z => a4 (by simp [z])
        exact absurd (a3.trans hc2) (h1 p a1 (y, d) hmem ne a2 hw)
      · refine capL_none h1 ys _ _ hn.2 (fun z hz => hm z (by simp [hz])) fun c h => ?_
        rcases List.mem_append.mp h with h | h
        · obtain ⟨p, a1, a2, a3, a4⟩ := hc c h
          exact ⟨p, a1, a2, a3, fun z => a4 (by simp [z])⟩
        · simp at h
          subst h
          exact ⟨(y, d), hmem, hw, rfl, hn.1⟩
/-- drawn parts are fine -/
theorem drawn_fine {wd : Int} {ts ks ss : List (Str × D)} (h1 : TbS wd ts) (hwd : wd ≤ 4) (h2 : KyS ts ks) (h3 : SvS ts ks ss) (l1 : 1 ≤ ts.length) (l2 : ts.length ≤ 5) (l3 : 1 ≤ ss.length) (l4 : ss.length ≤ 8) : sfault ts ks ss = none := by
  have nof : ∀ {ys : List Str} {p : Str → Bool}, (∀ y ∈ ys, p y = false) → (ys.find? p).map D.str = none := fun h => by
    rw [Option.map_eq_none_iff, List.find?_eq_none]
    intro x hx
    rw [h x hx]
    exact Bool.false_ne_true
  have f1 : faultT ts = none := by
    unfold faultT
    rw [if_pos ⟨l1, l2⟩]
    refine nof fun y hy => ?_
    obtain ⟨d, hd, hm⟩ := getK_mem (mem_sortT.mp hy)
    obtain ⟨a, w, rfl, b, c⟩ := h1.at hd
    simp only [badT, hd, a, widB]
    rw [decide_eq_true b, decide_eq_true (by omega : w ≤ 4)]
    rfl
  have f2 : faultK ts ks = none := by
    refine nof fun y hy => ?_
    obtain ⟨d, hd, hm⟩ := getK_mem (mem_sortT.mp hy)
    obtain ⟨w, a, b⟩ := h2.all _ hm
    have a : getK ts y = some (.int w) := a
    simp only [badK, hd, a]
    have b : keyB w d = true := b
    rw [b]; rfl
  have f3 : faultS ts ss = none := by
    unfold faultS
    rw [if_pos ⟨l3, l4⟩]
    refine nof fun y hy => ?_
    obtain ⟨d, hd, hm⟩ := getK_mem (mem_sortT.mp hy)
    obtain ⟨a, b⟩ := h3.all _ hm
    have a : wordB y = true := a
    have b : isServD (DK ts) d = true := b
    simp only [badS, hd, a, b]; rfl
  unfold sfault
  rw [f1, f2, f3]
  simp only []
  show Option.map _ (capL ts ks ss (sortT (ss.map (·.1))) [] []).1 = none
  rw [capL_none h3.one _ _ _ (sortT_nodup h3.nd) (fun y hy => mem_sortT.mp hy) (by simp)]
  rfl
/-- a schema that stands: what its dicts hold -/
structure Sch (s : S) (b i : Nat) (ts ks ss : List (Str × D)) : Prop where
  ini : ∃ W C, init76 s b i ts ks ss W C ∧ W = (sortT (ss.map (·.1))).map fun y => (y, D.bl (wholeB ts ks ((getK ss y).getD .non)))
theorem Sch.gp {s s' : S} {b i : Nat} {ts ks ss : List (Str × D)} (h : Sch s b i ts ks ss) (g : Gp s s') : Sch s' b i ts ks ss := by
  obtain ⟨W, C, h1, h2⟩ := h.ini
  exact ⟨W, C, h1.gp g, h2⟩
/-- objects below stand or change: the schema stays -/
theorem Sch.low {s s' : S} {b i : Nat} {ts ks ss : List (Str × D)} (h : Sch s b i ts ks ss) (g : ∀ (j : Nat) (o : O), b ≤ j ∨ j = i → s[j]? = some o → s'[j]? = some o) : Sch s' b i ts ks ss := by
  obtain ⟨W, C, ⟨f1, f2, f3, f4, f5, ⟨b1, b2, b3, b4, b5⟩, e0, e1, e2, e3, e4, e5⟩, h2⟩ := h.ini
  exact ⟨W, C, ⟨f1, f2, f3, f4, f5, ⟨b1, b2, b3, b4, b5⟩, g _ _ (.inr rfl) e0, g _ _ (.inl b1) e1, g _ _ (.inl b2) e2, g _ _ (.inl b3) e3, g _ _ (.inl b4) e4, g _ _ (.inl b5) e5⟩, h2⟩
structure BC (Γ : Ga) : Prop extends BD Γ where
  h77 : Γ.fns.lookup 77 = some f77
  hm0 : ∃ k, Γ.cls.lookup ("Schema" : Str) = some k ∧ k.mths.lookup ("capped_names" : Str) = some 77
  hu : ∃ sp, Γ.ecl.lookup ("UnknownName" : Str) = some ⟨["name"], sp⟩
structure BM (Γ : Ga) : Prop extends BC Γ where
  h84 : Γ.fns.lookup 84 = some f84
  h81 : Γ.fns.lookup 81 = some f81
  h87 : Γ.fns.lookup 87 = some f87
  h80 : Γ.fns.lookup 80 = some f80
  h82 : Γ.fns.lookup 82 = some f82
  h78 : Γ.fns.lookup 78 = some f78
  hm : ∃ k, Γ.cls.lookup ("Schema" : Str) = some k ∧ k.mths.lookup ("table_names" : Str) = some 84 ∧ k.mths.lookup ("service_names" : Str) = some 81 ∧ k.mths.lookup ("width_of" : Str) = some 87 ∧ k.mths.lookup ("key_of" : Str) = some 80 ∧ k.mths.lookup ("service_of" : Str) = some 82 ∧ k.mths.lookup ("is_whole" : Str) = some 78 ∧ k.mths.lookup ("capped_names" : Str) = some 77
theorem rse_un {Γ : Ga} (b : BC Γ) {k : Nat} {τ : Fr} {s : S} {e : Ex} {d : D} {cs : Cms} (h : evE (clF Γ k) e τ s = .ok d s) :
    exs (clF Γ k) (.cons (.rse "UnknownName" (.cons e .nil)) cs) τ s = .exc τ "UnknownName" [("name", d)] s := by
  obtain ⟨sp, he⟩ := b.hu
  have he : (clF Γ k).ecl "UnknownName" = some ⟨["name"], sp⟩ := he
  have h : (ev (clF Γ k) e).1 τ s = .ok d s := h
  simp only [exs, ex, he, evs, ev, plainT, R.bind_ok, h, R.toS_ok, List.length_cons, List.length_nil, if_true, SR.bind_exc]
  rfl
/-- which method of a schema -/
theorem mc_of {Γ : Ga} {k i : Nat} {s : S} {m : Str} {g : Nat} {a b c d e : D} (b0 : ∃ k, Γ.cls.lookup ("Schema" : Str) = some k ∧ k.mths.lookup m = some g) (h : s[i]? = some (.ins "Schema" [("width_table", a), ("key_table", b), ("service_table", c), ("whole_table", d), ("capped_table", e)])) (hm : ([("width_table", a), ("key_table", b), ("service_table", c), ("whole_table", d), ("capped_table", e)] : List (Str × D)).lookup m = none) : mcF (clF Γ k) m (.ref i) s = some g := by
  obtain ⟨kk, h1, h2⟩ := b0
  have h1 : (clF Γ k).cls "Schema" = some kk := h1
  simp only [mcF, ins_at h, Option.bind_some, hm, Option.isNone_none, if_true, h1, h2]
section
variable {Γ : Ga} {s : S} {b0 i : Nat} {ts ks ss : List (Str × D)} {x : Str}
def unk (x : Str) : List (Str × D) := [("name", .str x)]
/-- a table's width, a service's parts, if the name is known -/
theorem look_ok (b : BM Γ) {k g n : Nat} {fn : Fn} {f : Str} {fs us : List (Str × D)} (hg : Γ.fns.lookup g = some fn) (hfn : fn = ⟨2, 2, .cons (.ite (.cmp .nin (.var 1) (.fld (.var 0) f)) (.cons (.rse "UnknownName" (.cons (.var 1) .nil)) .nil) (.nil)) (.cons (.ret (.ix (.fld (.var 0) f) (.var 1))) .nil)⟩)
    (hi : s[i]? = some (.ins "Schema" fs)) (hf : f ∈ (["capped_table", "key_table", "service_table", "whole_table", "width_table"] : List Str)) (hd : fs.lookup f = some (.ref n)) (hn : s[n]? = some (.dct (DK us))) :
    (clF Γ (k + 1)).call g [.ref i, .str x] s = (match getK us x with | some d => .ok d s | none => .exc "UnknownName" (unk x) s) := by
  subst hfn
  have fl := own_fld b.toBP (k := k) hi hf hd
  have nn := nin_dct (x := x) hn
  rw [getK_DK] at nn
  have c : evT (clF Γ k) (.cmp .nin (.var 1) (.fld (.var 0) f)) [some (.ref i), some (.str x)] s = .ok (!(getK us x).isSome) s := by
    simp only [evT, ev, plainT, asB, List.getElem?_cons_zero, List.getElem?_cons_succ, R.bind_ok, fl, nn]
  cases h : getK us x with
  | none =>
    rw [h] at c
    refine call_ex hg rfl rfl (τ' := [some (.ref i), some (.str x)]) ?_
    show exs (clF Γ k) (.cons (.ite _ _ _) _) [some (.ref i), some (.str x)] s = _
    rw [exs, ite_t c, rse_un b.toBC (d := .str x) rfl]
    rfl
  | some d =>
    rw [h] at c
    refine call_rt hg (τ := [some (.ref i), some (.str x)]) rfl rfl ((exs_skip c).trans (exs_ret ?_))
    have ix := ix_dct hn (x := x) (by rw [getK_DK]; exact h)
    simp only [evE, ev, plainT, List.getElem?_cons_zero, List.getElem?_cons_succ, R.bind_ok, fl, ix]
/-- a name in one dict, the answer from another -/
theorem look2_ok (b : BM Γ) {k g n : Nat} {fn : Fn} {f : Str} {fs us : List (Str × D)} {e : Ex} {d : D} (hg : Γ.fns.lookup g = some fn) (hfn : fn = ⟨2, 2, .cons (.ite (.cmp .nin (.var 1) (.fld (.var 0) f)) (.cons (.rse "UnknownName" (.cons (.var 1) .nil)) .nil) (.nil)) (.cons (.ret e) .nil)⟩)
    (hi : s[i]? = some (.ins "Schema" fs)) (hf : f ∈ (["capped_table", "key_table", "service_table", "whole_table", "width_table"] : List Str)) (hd : fs.lookup f = some (.ref n)) (hn : s[n]? = some (.dct (DK us))) (he : (getK us x).isSome = true → evE (clF Γ k) e [some (.ref i), some (.str x)] s = .ok d s) :
    (clF Γ (k + 1)).call g [.ref i, .str x] s = (if (getK us x).isSome = true then .ok d s else .exc "UnknownName" (unk x) s) := by
  subst hfn
  have fl := own_fld b.toBP (k := k) hi hf hd
  have nn := nin_dct (x := x) hn
  rw [getK_DK] at nn
  have c : evT (clF Γ k) (.cmp .nin (.var 1) (.fld (.var 0) f)) [some (.ref i), some (.str x)] s = .ok (!(getK us x).isSome) s := by
    simp only [evT, ev, plainT, asB, List.getElem?_cons_zero, List.getElem?_cons_succ, R.bind_ok, fl, nn]
  cases h : (getK us x).isSome with
  | false =>
    rw [h] at c
    rw [if_neg Bool.false_ne_true]
    refine call_ex hg rfl rfl (τ' := [some (.ref i), some (.str x)]) ?_
    show exs (clF Γ k) (.cons (.ite _ _ _) _) [some (.ref i), some (.str x)] s = _
    rw [exs, ite_t c, rse_un b.toBC (d := .str x) rfl]
    rfl
  | true =>
    rw [h] at c
    rw [if_pos rfl]
    exact call_rt hg (τ := [some (.ref i), some (.str x)]) rfl rfl ((exs_skip c).trans (exs_ret (he h)))
/-- what is told of a name -/
def toldD (ts ks ss : List (Str × D)) (x : Str) : Nat → Option D
  | 0 => getK ts x
  | 1 => if (getK ts x).isSome = true then some ((getK ks x).getD .non) else none
  | 2 => getK ss x
  | _ => (getK ss x).map fun d => .bl (wholeB ts ks d)
def answer (s : S) (x : Str) : Option D → R D
  | some d => .ok d s
  | none => .exc "UnknownName" (unk x) s
theorem told_ok (b : BM Γ) {k : Nat} (hk : 1 ≤ k) (h : Sch s b0 i ts ks ss) :
    (clF Γ k).call 87 [.ref i, .str x] s = answer s x (toldD ts ks ss x 0) ∧ (clF Γ k).call 80 [.ref i, .str x] s = answer s x (toldD ts ks ss x 1) ∧ (clF Γ k).call 82 [.ref i, .str x] s = answer s x (toldD ts ks ss x 2) ∧ (clF Γ k).call 78 [.ref i, .str x] s = answer s x (toldD ts ks ss x 3) := by
  obtain ⟨j, rfl, _⟩ := lv hk
  obtain ⟨W, C, ⟨f1, f2, f3, f4, f5, _, e0, e1, e2, e3, e4, e5⟩, rfl⟩ := h.ini
  refine ⟨?_, ?_, ?_, ?_⟩
  · refine (look_ok b (k := j) b.h87 (f := "width_table") rfl e0 (by simp) rfl e1).trans ?_
    rw [getK_srt]
    simp only [toldD]
    cases getK ts x <;> rfl
  · have fl := own_fld b.toBP (k := j) e0 (f := "key_table") (by simp) (d := .ref f2) rfl
    have hms : mSel .get (.ref f2) s = some .dget := by simp only [mSel, e2]; rfl
    have hg : mtD .dget (.ref f2) [.str x] s = .ok ((getK ks x).getD .non) s := by simp only [mtD, e2, keyD, getK_DK, getK_srt]
    refine (look2_ok b (k := j) b.h80 (f := "width_table") (d := (getK ks x).getD .non) rfl e0 (by simp) rfl e1 fun _ => ?_).trans ?_
    · simp only [evE, ev, evs, plainT, List.getElem?_cons_zero, List.getElem?_cons_succ, R.bind_ok, fl, hms, hg]
    · rw [getK_srt]
      simp only [toldD]
      cases (getK ts x).isSome <;> rfl
  · refine (look_ok b (k := j) b.h82 (f := "service_table") rfl e0 (by simp) rfl e3).trans ?_
    rw [getK_srt]
    simp only [toldD]
    cases getK ss x <;> rfl
  · have fl := own_fld b.toBP (k := j) e0 (f := "whole_table") (by simp) (d := .ref f4) rfl
    refine (look2_ok b (k := j) b.h78 (f := "service_table") (d := .bl (wholeB ts ks ((getK ss x).getD .non))) rfl e0 (by simp) rfl e3 fun hx => ?_).trans ?_
    · rw [getK_srt] at hx
      have ix := ix_dct e4 (x := x) (d := .bl (wholeB ts ks ((getK ss x).getD .non))) (by
        rw [getK_DK, getK_map, if_pos]
        obtain ⟨d, hd⟩ := Option.isSome_iff_exists.mp hx
        exact mem_sortT.mpr (mem_of_getK hd))
      simp only [evE, ev, plainT, List.getElem?_cons_zero, List.getElem?_cons_succ, R.bind_ok, fl, ix]
    · rw [getK_srt]
      simp only [toldD]
      cases getK ss x <;> rfl
/-- the names, ascending -/
theorem names_ok (b : BM Γ) {k : Nat} (hk : 1 ≤ k) (h : Sch s b0 i ts ks ss) :
    (clF Γ k).call 84 [.ref i] s = .ok (.ref s.length) (s ++ [.lst ((sortT (ts.map (·.1))).map .str)]) ∧ (clF Γ k).call 81 [.ref i] s = .ok (.ref s.length) (s ++ [.lst ((sortT (ss.map (·.1))).map .str)]) := by
  obtain ⟨j, rfl, _⟩ := lv hk
  obtain ⟨W, C, ⟨f1, f2, f3, f4, f5, _, e0, e1, e2, e3, e4, e5⟩, _⟩ := h.ini
  have fl1 := own_fld b.toBP (k := j) e0 (f := "width_table") (by simp) (d := .ref f1) rfl
  have fl2 := own_fld b.toBP (k := j) e0 (f := "service_table") (by simp) (d := .ref f3) rfl
  have l1 := list_dct e1
  have l2 := list_dct e3
  rw [srt_names] at l1 l2
  constructor
  · refine call_rt b.h84 (τ := [some (.ref i)]) rfl rfl (exs_ret ?_)
    simp only [evE, ev, evs, plainT, List.getElem?_cons_zero, R.bind_ok, fl1, l1]
  · refine call_rt b.h81 (τ := [some (.ref i)]) rfl rfl (exs_ret ?_)
    simp only [evE, ev, evs, plainT, List.getElem?_cons_zero, R.bind_ok, fl2, l2]
def capN (ts ks ss : List (Str × D)) : List Str := (sortT (ss.map (·.1))).filter fun y => !wholeB ts ks ((getK ss y).getD .non)
def notW (ts ks ss : List (Str × D)) : D → Bool
  | .str y => !wholeB ts ks ((getK ss y).getD .non)
  | _ => false
theorem set_back {s : S} {n : Nat} {o o' : O} (h : s[n]? = some o) : (s.set n o').set n o = s := by
  rw [List.set_set]; exact set_same h
/-- the names that are capped -/
theorem capped_ok (b : BC Γ) {k : Nat} (hk : 1 ≤ k) (h : Sch s b0 i ts ks ss) (hl : ss.length < 64) (hv : ∀ y d, getK ss y = some d → ∃ l, d = .tup l) :
    ∃ s', Gp s s' ∧ (clF Γ k).call 77 [.ref i] s = .ok (.ref s.length) s' ∧ s'[s.length]? = some (.lst ((capN ts ks ss).map .str)) := by
  obtain ⟨j, rfl, _⟩ := lv hk
  obtain ⟨W, C, ⟨f1, f2, f3, f4, f5, _, e0, e1, e2, e3, e4, e5⟩, rfl⟩ := h.ini
  have lt3 := (List.getElem?_eq_some_iff.mp e3).1
  have n3i : f3 ≠ i := fun z => by rw [z, e0] at e3; cases e3
  -- while it is walked
  let s1 : S := s.set f3 (.frd (DK (srt ss)))
  have a0 : s1[i]? = some (.ins "Schema" [("width_table", .ref f1), ("key_table", .ref f2), ("service_table", .ref f3), ("whole_table", .ref f4), ("capped_table", .ref f5)]) := by
    show (s.set _ _)[i]? = _
    rw [List.getElem?_set_ne n3i]; exact e0
  have a3 : s1[f3]? = some (.frd (DK (srt ss))) := set_get lt3
  have fl3 := own_fld b.toBP (k := j) a0 (f := "service_table") (by simp) (d := .ref f3) rfl
  have fl3' := own_fld b.toBP (k := j) e0 (f := "service_table") (by simp) (d := .ref f3) rfl
  have fl4 := own_fld b.toBP (k := j) a0 (f := "whole_table") (by simp) (d := .ref f4) rfl
  have lst3 : lstAt s1 f3 = none := by unfold lstAt; rw [a3]
  have src : srcOf .seq [.ref f3] s1 = some (.dk f3 (DK (srt ss))) := by simp only [srcOf, lst3, a3]
  have items : (Src.dk f3 (DK (srt ss))).items = (sortT (ss.map (·.1))).map .str := by
    show (DK (srt ss)).map (fun p => dKey p.1) = _
    unfold DK
    rw [List.map_map, ← srt_names, List.map_map]
    rfl
  have ok1 : (Src.dk f3 (DK (srt ss))).ok s1 := a3
  have nof : ((sortT (ss.map (·.1))).map D.str).filter (notW ts ks ss) = (capN ts ks ss).map D.str := by
    unfold capN
    rw [List.filter_map]
    rfl
  have lc : lcS (Src.dk f3 (DK (srt ss))).ok (lcB (clF Γ j) [some (.ref i), none] [1] (.var 1) (.not (.ix (.fld (.var 0) "whole_table") (.var 1))) (.var 1)) ((sortT (ss.map (·.1))).map .str) s1 = .ok ((capN ts ks ss).map .str) s1 := by
    rw [← nof]
    refine lcS_keep ok1 _ fun d hd => ?_
    obtain ⟨y, hy, rfl⟩ := List.mem_map.mp hd
    by_cases e43 : f4 = f3
    · exfalso
      rw [e43, e3] at e4
      injection e4 with e4
      injection e4 with e4
      unfold DK srt at e4
      rw [List.map_map, List.map_map] at e4
      obtain ⟨d, hd, hm⟩ := getK_mem (mem_sortT.mp hy)
      have := List.map_inj_left.mp e4 y hy
      simp only [Function.comp, hd, Option.getD_some, Prod.mk.injEq, true_and] at this
      obtain ⟨l, rfl⟩ := hv y d hd
      cases this
    have a4 : s1[f4]? = some (.dct (DK ((sortT (ss.map (·.1))).map fun y => (y, D.bl (wholeB ts ks ((getK ss y).getD .non)))))) := by
      show (s.set _ _)[f4]? = _
      rw [List.getElem?_set_ne (Ne.symm e43)]; exact e4
    have ix := ix_dct a4 (x := y) (d := .bl (wholeB ts ks ((getK ss y).getD .non))) (by rw [getK_DK, getK_map, if_pos hy])
    have e : evT (clF Γ j) (.not (.ix (.fld (.var 0) "whole_table") (.var 1))) [some (.ref i), some (.str y)] s1 = .ok (!wholeB ts ks ((getK ss y).getD .non)) s1 := by
      simp only [evT, ev, plainT, List.getElem?_cons_zero, List.getElem?_cons_succ, R.bind_ok, fl4, ix, truD]
    rw [show notW ts ks ss (.str y) = !wholeB ts ks ((getK ss y).getD .non) from rfl]
    cases hq : (!wholeB ts ks ((getK ss y).getD .non)) with
    | true => rw [hq] at e; exact lcB_if rfl e rfl
    | false => rw [hq] at e; exact lcB_no rfl e
  have e2 : evE (clF Γ j) (.lc (.var 1) (.var 1) .seq (.cons (.fld (.var 0) "service_table") .nil) (.not (.ix (.fld (.var 0) "whole_table") (.var 1))) [("name", 1)]) [some (.ref i), none] s1 = .ok (.ref s1.length) (s1 ++ [.lst ((capN ts ks ss).map .str)]) :=
    ev_lc (s1 := s1) (s2 := s1) (ds := [.ref f3]) (src := .dk f3 (DK (srt ss))) (by
      simp only [evs, ev, plainT, List.getElem?_cons_zero, R.bind_ok, fl3]) src (by
      rw [items, List.length_map, sortT_len, List.length_map]
      exact Nat.lt_trans hl (by decide)) (by rw [items]; exact lc)
  have len1 : s1.length = s.length := List.length_set ..
  have back : (s1 ++ [O.lst ((capN ts ks ss).map .str)])[f3]? = some (.frd (DK (srt ss))) := by
    rw [List.getElem?_append_left (by rw [len1]; exact lt3)]; exact a3
  refine ⟨s ++ [.lst ((capN ts ks ss).map .str)], Gp.new _ _, ?_, new_at⟩
  refine call_rt b.h77 (τ := [some (.ref i), none]) rfl rfl (exs_rt ?_)
  have lk : lkOf (evE (clF Γ j) (.fld (.var 0) "service_table") [some (.ref i), none] s) s = some (f3, DK (srt ss)) := by
    simp only [evE, ev, plainT, List.getElem?_cons_zero, R.bind_ok, fl3', lkOf, dctAt_at e3, Option.map_some]
  have rt : ex (clF Γ j) (.ret (.lc (.var 1) (.var 1) .seq (.cons (.fld (.var 0) "service_table") .nil) (.not (.ix (.fld (.var 0) "whole_table") (.var 1))) [("name", 1)])) [some (.ref i), none] s1 = .rt (.ref s1.length) (s1 ++ [.lst ((capN ts ks ss).map .str)]) := ex_ret e2
  simp only [ex, lk]
  have rt2 : ex (clF Γ j) (.ret (.lc (.var 1) (.var 1) .seq (.cons (.fld (.var 0) "service_table") .nil) (.not (.ix (.fld (.var 0) "whole_table") (.var 1))) [("name", 1)])) [some (.ref i), none] (s.set f3 (.frd (DK (srt ss)))) = .rt (.ref s1.length) (s1 ++ [.lst ((capN ts ks ss).map .str)]) := rt
  simp only [ex] at rt2
  rw [rt2]
  simp only [lkS, unlk, back, len1]
  congr 1
  rw [List.set_append_left _ _ (by rw [len1]; exact lt3)]
  congr 1
  exact set_back e3
end
end SL
namespace SL
open PySem L2 G
theorem eq_copy {s : S} {m n : Nat} {ts : List (Str × D)} {k : Nat} (hk : k ≤ 59) (h1 : s[m]? = some (.dct (DK ts))) (h2 : s[n]? = some (.dct (DK ts))) (nd : (ts.map (·.1)).Nodup) (hd : ∀ x d, getK ts x = some d → dataD k d) : eqD (.ref m) (.ref n) s = .ok true s := by
  simp only [eqD, h1, h2, eqK, if_true]
  refine eqHits_all _ fun p hp => ?_
  obtain ⟨q, hq, rfl⟩ := List.mem_map.mp hp
  have e := getK_of_mem nd hq
  exact ⟨q.2, by rw [getK_DK]; exact e, eqP_self hk (hd _ _ e)⟩
theorem Gp.set_new {s s' : S} {a : Nat} {o : O} (g : Gp s s') (h : s.length ≤ a) : Gp s (s'.set a o) := fun j p e => by
  have := (List.getElem?_eq_some_iff.mp e).1
  rw [List.getElem?_set_ne (by omega)]
  exact g _ _ e
theorem mcv {cl : CL} {m : Str} {g v : Nat} {τ : Fr} {s : S} {x : D} (h : mcF cl m x s = some g) (h0 : τ[v]? = some (some x)) : evE cl (.mc m (.var v) .nil) τ s = cl.call g [x] s := by
  simp only [evE, ev, evs, plainT, h0, R.bind_ok, h]
theorem clear_lst {s : S} {n : Nat} {ds : List D} (h : s[n]? = some (.lst ds)) : mSel .clear (.ref n) s = some .lclear ∧ mtD .lclear (.ref n) [] s = .ok .non (s.set n (.lst [])) := ⟨by simp only [mSel, h]; rfl, by simp only [mtD, h]⟩
theorem clear_dct {s : S} {n : Nat} {ds : List (Key × D)} (h : s[n]? = some (.dct ds)) : mSel .clear (.ref n) s = some .dclear ∧ mtD .dclear (.ref n) [] s = .ok .non (s.set n (.dct [])) := ⟨by simp only [mSel, h]; rfl, by simp only [mtD, h]⟩
/-- e.clear() -/
theorem ev_clear {cl : CL} {τ : Fr} {s s1 s2 : S} {e : Ex} {x : D} {i : Mi} (h : evE cl e τ s = .ok x s1) (h1 : mSel .clear x s1 = some i ∧ mtD i x [] s1 = .ok .non s2) : evE cl (.meth .clear e .nil) τ s = .ok .non s2 := by
  have h : (ev cl e).1 τ s = .ok x s1 := h
  simp only [evE, ev, evs, plainT, h, R.bind_ok, h1.1, h1.2]
theorem ev_append {cl : CL} {τ : Fr} {s s1 : S} {e : Ex} {n : Nat} {ds : List D} {c : Cst} (h : evE cl e τ s = .ok (.ref n) s1) (h1 : s1[n]? = some (.lst ds)) (hl : ds.length < 10000) : evE cl (.meth .append e (.cons (.cst c) .nil)) τ s = .ok .non (s1.set n (.lst (ds ++ [c.d]))) := by
  have h : (ev cl e).1 τ s = .ok (.ref n) s1 := h
  have hms : mSel .append (.ref n) s1 = some .lappend := by simp only [mSel, h1]; rfl
  simp only [evE, ev, evs, plainT, h, R.bind_ok, hms, append_lst h1 hl]
theorem eq_strs {s : S} {m n : Nat} {ys : List Str} (h : ∀ y ∈ ys, Asc y) (h1 : s[m]? = some (.lst (ys.map .str))) (h2 : s[n]? = some (.lst (ys.map .str))) : eqD (.ref m) (.ref n) s = .ok true s := by
  rw [eqD_lst h1]
  simp only [eqP, toP_ref h1, toP_ref h2, toPs_strs, Option.map_some]
  rw [if_pos ⟨shaped_strs h, shaped_strs h⟩]
  have : PyData.canLay0 (.list (ys.map .str)) = true := by simp only [PyData.canLay0, lay_strs h]
  rw [SeqAt.eqv_refl _ this]
theorem or_f {cl : CL} {a b : Ex} {τ : Fr} {s s1 : S} (h : evT cl a τ s = .ok false s1) : evT cl (.or a b) τ s = evT cl b τ s1 := by
  have h : (ev cl a).2 τ s = .ok false s1 := h
  simp only [evT, ev, h, R.bind_ok, Bool.false_eq_true, if_false]
theorem ne_f {cl : CL} {a b : Ex} {τ : Fr} {s s1 s2 : S} {x y : D} (h1 : evE cl a τ s = .ok x s1) (h2 : evE cl b τ s1 = .ok y s2) (h3 : eqD x y s2 = .ok true s2) : evT cl (.cmp .ne a b) τ s = .ok false s2 := by
  have h1 : (ev cl a).1 τ s = .ok x s1 := h1
  have h2 : (ev cl b).1 τ s1 = .ok y s2 := h2
  simp only [evT, ev, asB, h1, h2, R.bind_ok, cmpD, h3]
  rfl
theorem ev1 {cl : CL} {e : Ex} {τ : Fr} {s s' : S} {d : D} (h : evs cl (.cons e .nil) τ s = .ok [d] s') : evE cl e τ s = .ok d s' := by
  simp only [evs] at h
  show (ev cl e).1 τ s = _
  cases hq : (ev cl e).1 τ s with
  | ok d2 s2 => rw [hq] at h; simp only [R.bind_ok] at h; cases h; rfl
  | exc c fs s2 => rw [hq] at h; cases h
  | bad => rw [hq] at h; cases h
theorem mc0 {cl : CL} {m : Str} {g : Nat} {τ : Fr} {s : S} {x : D} (h : mcF cl m x s = some g) (h0 : τ[0]? = some (some x) := by rfl) : evE cl (.mc m (.var 0) .nil) τ s = cl.call g [x] s := by
  simp only [evE, ev, evs, plainT, h0, R.bind_ok, h]
theorem add_lst' {s : S} {m n : Nat} {a b : List D} (h1 : s[m]? = some (.lst a)) (h2 : s[n]? = some (.lst b)) (h : a.length + b.length ≤ 10000) : binD .add (.ref m) (.ref n) s = .ok (.ref s.length) (s ++ [.lst (a ++ b)]) := by
  simp only [binD, addD, h1, h2, new]
  rw [if_pos (by rw [sizeLine_eq]; omega)]
theorem names_asc {ts : List (Str × D)} (h : AscN ts) : ∀ y ∈ sortT (ts.map (·.1)), Asc y := fun y hy => by
  obtain ⟨p, hp, rfl⟩ := List.mem_map.mp (mem_sortT.mp hy)
  exact h p hp
end SL

set_option Elab.async false
set_option linter.all false
set_option maxRecDepth 100000
set_option autoImplicit false
set_option maxHeartbeats 1000000
/-! SNa: dicts compared; parts that make a schema. -/
namespace SL
open PySem PySem.Spec PyProof.Rows L2 G
/-- 307: _law_turned -/
def b307 : Cms := .cons (.asg (.loc (.var 1)) .dct)
    (.cons (.for_ (.var 2) .seq (.cons (.lrv (.blt .list (.cons (.var 0) .nil))) .nil) (.cons (.asg (.sub (.var 1) (.var 2)) (.ix (.var 0) (.var 2))) .nil))
    (.cons (.ret (.var 1)) .nil))
def f307 : Fn := ⟨1, 3, b307⟩
/-- 133: _law_changed -/
def b133 : Cms := .cons (.asg (.loc (.var 4)) (.call 148 (.cons (.var 0) (.cons (.cst (.int 3)) .nil))))
    (.cons (.ite (.cmp .eq (.var 4) (.cst (.int 0))) (.cons (.asg (.loc (.var 5)) (.lc (.var 6) (.var 6) .seq (.cons (.blt .list (.cons (.var 1) .nil)) .nil) (.cmp .lt (.ix (.var 1) (.var 6)) (.cst (.int 4))) [("_law_name", 6)]))
    (.cons (.ite (.cmp .ne (.var 5) (.lst .nil)) (.cons (.asg (.loc (.var 6)) (.call 247 (.cons (.var 0) (.cons (.var 5) .nil))))
    (.cons (.asg (.sub (.var 1) (.var 6)) (.bin .add (.ix (.var 1) (.var 6)) (.cst (.int 1)))) .nil)) (.nil)) .nil)) (.nil))
    (.cons (.ite (.cmp .eq (.var 4) (.cst (.int 1))) (.cons (.asg (.loc (.var 6)) (.call 247 (.cons (.var 0) (.cons (.blt .list (.cons (.var 1) .nil)) .nil))))
    (.cons (.ite (.cmp .inn (.var 6) (.var 2)) (.cons (.expr (.meth .pop (.var 2) (.cons (.var 6) .nil))) .nil) (.cons (.ite (.cmp .gt (.ix (.var 1) (.var 6)) (.cst (.int 1))) (.cons (.asg (.sub (.var 2) (.var 6)) (.tup (.cons (.bin .sub (.ix (.var 1) (.var 6)) (.cst (.int 1))) .nil))) .nil) (.nil)) .nil)) .nil)) (.nil))
    (.cons (.ite (.cmp .eq (.var 4) (.cst (.int 2))) (.cons (.asg (.loc (.var 6)) (.call 247 (.cons (.var 0) (.cons (.blt .list (.cons (.var 3) .nil)) .nil))))
    (.cons (.asg (.sub (.var 3) (.var 6)) (.tup (.cons (.ix (.ix (.var 3) (.var 6)) (.cst (.int 0))) (.cons (.ix (.ix (.var 3) (.var 6)) (.cst (.int 1))) (.cons (.cst .non) .nil))))) .nil)) (.nil)) .nil)))
def f133 : Fn := ⟨4, 7, b133⟩
/-- 163: _law_fits -/
def b163 : Cms := .cons (.asg (.loc (.var 3)) (.lst .nil))
    (.cons (.for_ (.var 4) .seq (.cons (.blt .list (.cons (.var 2) .nil)) .nil) (.cons (.ite (.not (.call 198 (.cons (.var 0) (.cons (.var 1) (.cons (.ix (.var 2) (.var 4)) .nil))))) (.cons (.ite (.cmp .inn (.ix (.ix (.var 2) (.var 4)) (.cst (.int 0))) (.var 3)) (.cons (.ret (.cst (.bl false))) .nil) (.nil))
    (.cons (.expr (.meth .append (.var 3) (.cons (.ix (.ix (.var 2) (.var 4)) (.cst (.int 0))) .nil))) .nil)) (.nil)) .nil))
    (.cons (.ret (.cst (.bl true))) .nil))
def f163 : Fn := ⟨3, 5, b163⟩
/-- 309: _law_uncapped_due -/
def b309 : Cms := .cons (.asg (.loc (.var 2)) .dct)
    (.cons (.for_ (.var 3) .seq (.cons (.blt .list (.cons (.var 0) .nil)) .nil) (.cons (.asg (.loc (.tup [4, 5, 6])) (.ix (.var 0) (.var 3)))
    (.cons (.ite (.cmp .inn (.var 3) (.var 1)) (.cons (.asg (.loc (.var 6)) (.cst .non)) .nil) (.nil))
    (.cons (.asg (.sub (.var 2) (.var 3)) (.tup (.cons (.var 4) (.cons (.var 5) (.cons (.var 6) .nil))))) .nil))))
    (.cons (.ret (.var 2)) .nil))
def f309 : Fn := ⟨2, 7, b309⟩
/-- 310: _law_uncapped_holds -/
def b310 : Cms := .cons (.asg (.loc (.var 5)) (.lc (.var 13) (.var 13) .seq (.cons (.var 4) .nil) (.cmp .nin (.var 13) (.var 3)) [("_law_name", 13)]))
    (.cons (.asg (.loc (.var 6)) (.blt .list (.cons (.var 4) .nil)))
    (.cons (.asg (.loc (.var 7)) (.cst .non))
    (.cons (.asg (.loc (.var 8)) (.cst .non))
    (.cons (.asg (.loc (.var 9)) (.cst (.bl false)))
    (.cons (.try_ (.cons (.asg (.loc (.var 7)) (.mc "uncapped" (.var 0) (.cons (.var 6) .nil))) .nil) (.cons "UnknownName" (some 10) (.cons (.asg (.loc (.var 8)) (.efld 10 "name"))
    (.cons (.asg (.loc (.var 9)) (.eis 10 "CappedError")) .nil)) .nil))
    (.cons (.ite (.cmp .ne (.var 6) (.var 4)) (.cons (.ret (.cst (.bl false))) .nil) (.nil))
    (.cons (.ite (.cmp .ne (.var 5) (.lst .nil)) (.cons (.ret (.and (.var 9) (.cmp .eq (.var 8) (.ix (.var 5) (.cst (.int 0)))))) .nil) (.nil))
    (.cons (.ite (.or (.cmp .isn (.var 7) (.cst .non)) (.or (.cmp .ne (.fld (.var 7) "tables") (.var 1)) (.cmp .ne (.fld (.var 7) "key_columns") (.var 2)))) (.cons (.ret (.cst (.bl false))) .nil) (.nil))
    (.cons (.asg (.loc (.var 11)) (.call 309 (.cons (.var 3) (.cons (.var 4) .nil))))
    (.cons (.asg (.loc (.var 12)) (.lc (.var 13) (.var 13) .seq (.cons (.blt .sorted (.cons (.blt .list (.cons (.var 11) .nil)) .nil)) .nil) (.not (.call 198 (.cons (.var 1) (.cons (.var 2) (.cons (.ix (.var 11) (.var 13)) .nil))))) [("_law_name", 13)]))
    (.cons (.ret (.and (.cmp .eq (.fld (.var 7) "services") (.var 11)) (.cmp .eq (.mc "capped_names" (.var 7) .nil) (.var 12)))) .nil)))))))))))
def f310 : Fn := ⟨5, 14, b310⟩
/-- 75: Schema.__eq__ -/
def b75 : Cms := .cons (.ite (.not (.isc (.var 1) "Schema")) (.cons (.ret (.cst (.bl false))) .nil) (.nil))
    (.cons (.ite (.or (.cmp .ne (.fld (.var 0) "width_table") (.fld (.var 1) "width_table")) (.cmp .ne (.fld (.var 0) "key_table") (.fld (.var 1) "key_table"))) (.cons (.ret (.cst (.bl false))) .nil) (.nil))
    (.cons (.ret (.cmp .eq (.fld (.var 0) "service_table") (.fld (.var 1) "service_table"))) .nil))
def f75 : Fn := ⟨2, 2, b75⟩
/-- 86: Schema.uncapped -/
def b86 : Cms := .cons (.for_ (.var 2) .seq (.cons (.var 1) .nil) (.cons (.ite (.cmp .nin (.var 2) (.fld (.var 0) "service_table")) (.cons (.rse "UnknownName" (.cons (.var 2) .nil)) .nil) (.nil)) .nil))
    (.cons (.asg (.loc (.var 3)) .dct)
    (.cons (.lk (.fld (.var 0) "service_table") (.for_ (.tup [2, 4]) .items (.cons (.fld (.var 0) "service_table") .nil) (.cons (.asg (.sub (.var 3) (.var 2)) (.ife (.cmp .inn (.var 2) (.var 1)) (.tup (.cons (.ix (.var 4) (.cst (.int 0))) (.cons (.ix (.var 4) (.cst (.int 1))) (.cons (.cst .non) .nil)))) (.var 4))) .nil)))
    (.cons (.ret (.mk "Schema" (.cons (.fld (.var 0) "width_table") (.cons (.fld (.var 0) "key_table") (.cons (.var 3) .nil))))) .nil)))
def f86 : Fn := ⟨2, 5, b86⟩
end SL
namespace SL
open PySem L2 G
/-! ### dicts compared, as a truth value -/
def datD (d : D) : PyData := (toP 60 [] d).getD .none
theorem dat_of {k : Nat} {d : D} (hk : k ≤ 59) (h : dataD k d) : (∀ s, toP 60 s d = some (datD d)) ∧ PyData.canLay0 (datD d) = true ∧ SeqAt.shaped (datD d) = true := by
  obtain ⟨p, h1, h2, h3⟩ := toP_data h
  have e : datD d = p := by unfold datD; rw [h1 60 [] (by omega)]; rfl
  rw [e]
  refine ⟨fun s => h1 60 s (by omega), h2, ?_⟩
  unfold SeqAt.shaped
  simp only [h2, Bool.true_and, decide_eq_true_eq]
  omega
def eqv (x y : D) : Bool := PyData.eqv (datD x) (datD y)
theorem eqP_data {k : Nat} {x y : D} {s : S} (hk : k ≤ 59) (hx : dataD k x) (hy : dataD k y) : eqP x y s = .ok (eqv x y) s := by
  obtain ⟨a1, a2, a3⟩ := dat_of hk hx
  obtain ⟨b1, b2, b3⟩ := dat_of hk hy
  simp only [eqP, a1, b1]
  rw [if_pos ⟨a3, b3⟩]; rfl
theorem eqv_self {k : Nat} {x : D} (hk : k ≤ 59) (hx : dataD k x) : eqv x x = true := SeqAt.eqv_refl _ (dat_of hk hx).2.1
theorem eqv_comm' (x y : D) : eqv x y = eqv y x := PySem.W.eqv_comm _ _
def hitB (b : List (Str × D)) (p : Str × D) : Bool := match getK b p.1 with
  | none => false
  | some v => eqv p.2 v
def eqB (a b : List (Str × D)) : Bool := decide (a.length = b.length) && a.all (hitB b)
def DatA (a : List (Str × D)) : Prop := ∀ x d, getK a x = some d → dataD 3 d
theorem hits_eqB {b : List (Str × D)} {s : S} (hb : DatA b) : ∀ (a : List (Str × D)), (∀ p ∈ a, dataD 3 p.2) → eqHits (DK b) s (DK a) = .ok (a.all (hitB b)) s
  | [], _ => rfl
  | p :: r, h => by
    have ih := hits_eqB (s := s) hb r fun q hq => h q (by simp [hq])
    show eqHits (DK b) s ((.inr p.1, p.2) :: DK r) = _
    simp only [eqHits, getK_DK, List.all_cons, hitB]
    cases e : getK b p.1 with
    | none => simp
    | some v =>
      simp only [eqP_data (by decide : 3 ≤ 59) (h p (by simp)) (hb _ _ e), R.bind_ok, ih]
theorem dic_eq {s : S} {m n : Nat} {a b : List (Str × D)} (h1 : s[m]? = some (.dct (DK a))) (h2 : s[n]? = some (.dct (DK b))) (na : (a.map (·.1)).Nodup) (ha : DatA a) (hb : DatA b) : eqD (.ref m) (.ref n) s = .ok (eqB a b) s := by
  have la : (DK a).length = a.length := by simp [DK]
  have lb : (DK b).length = b.length := by simp [DK]
  simp only [eqD, h1, h2, eqK, la, lb]
  unfold eqB
  by_cases hl : a.length = b.length
  · rw [if_pos hl, decide_eq_true hl, Bool.true_and]
    exact hits_eqB hb a fun p hp => ha _ _ (getK_of_mem na hp)
  · rw [if_neg hl, decide_eq_false hl, Bool.false_and]
def optR : Option D → Option D → Prop
  | none, none => True
  | some u, some v => eqv u v = true
  | _, _ => False
theorem getK_none {a : List (Str × D)} {x : Str} : getK a x = none ↔ x ∉ a.map (·.1) := by
  have h := getK_some (C := a) (x := x)
  cases e : getK a x with
  | none => rw [e] at h; simp at h; simpa using h
  | some d => rw [e] at h; simp at h; simpa using h
theorem nd_back : ∀ {a b : List Str}, a.Nodup → (∀ y ∈ a, y ∈ b) → b.length ≤ a.length → ∀ y ∈ b, y ∈ a
  | [], b, _, _, hl, y, hy => by
    have : b = [] := List.length_eq_zero_iff.mp (by simpa using hl)
    rw [this] at hy; cases hy
  | x :: a, b, hn, sub, hl, y, hy => by
    have hn := List.nodup_cons.mp hn
    have hx := sub x (by simp)
    by_cases e : y = x
    · simp [e]
    · have h1 : (b.erase x).length ≤ a.length := by rw [List.length_erase_of_mem hx]; simp at hl; omega
      have h2 : ∀ z ∈ a, z ∈ b.erase x := fun z hz => (List.mem_erase_of_ne (fun (q : z = x) => hn.1 (q ▸ hz))).mpr (sub z (by simp [hz]))
      have := nd_back hn.2 h2 h1 y ((List.mem_erase_of_ne e).mpr hy)
      simp [this]
theorem eqB_iff {a b : List (Str × D)} (na : (a.map (·.1)).Nodup) (nb : (b.map (·.1)).Nodup) : eqB a b = true ↔ ∀ x, optR (getK a x) (getK b x) := by
  unfold eqB
  rw [Bool.and_eq_true, decide_eq_true_eq, List.all_eq_true]
  constructor
  · rintro ⟨hl, h⟩ x
    have sub : ∀ y ∈ a.map (·.1), y ∈ b.map (·.1) := fun y hy => by
      obtain ⟨p, hp, rfl⟩ := List.mem_map.mp hy
      have := h p hp
      unfold hitB at this
      cases e : getK b p.1 with
      | none => rw [e] at this; cases this
      | some v => exact mem_of_getK e
    have back : ∀ y ∈ b.map (·.1), y ∈ a.map (·.1) := nd_back na sub (by simp [hl])
    cases e : getK a x with
    | none =>
      have hx := getK_none.mp e
      have : getK b x = none := getK_none.mpr fun z => hx (back x z)
      rw [this]; trivial
    | some u =>
      have := h (x, u) (mem_getK e)
      unfold hitB at this
      cases e2 : getK b x with
      | none => simp only [e2] at this; cases this
      | some v => simp only [e2] at this; exact this
  · intro h
    have mem : ∀ y, y ∈ a.map (·.1) ↔ y ∈ b.map (·.1) := fun y => by
      have := h y
      cases e : getK a y with
      | none =>
        rw [e] at this
        cases e2 : getK b y with
        | none => exact ⟨fun z => absurd z (getK_none.mp e), fun z => absurd z (getK_none.mp e2)⟩
        | some v => rw [e2] at this; exact this.elim
      | some u =>
        rw [e] at this
        cases e2 : getK b y with
        | none => rw [e2] at this; exact this.elim
        | some v => exact ⟨fun _ => mem_of_getK e2, fun _ => mem_of_getK e⟩
    have pm : (a.map (·.1)).Perm (b.map (·.1)) := (List.perm_ext_iff_of_nodup na nb).mpr mem
    refine ⟨by have := pm.length_eq; simpa using this, fun p hp => ?_⟩
    have e := getK_of_mem na hp
    have := h p.1
    rw [e] at this
    unfold hitB
    cases e2 : getK b p.1 with
    | none => rw [e2] at this; exact this.elim
    | some v => rw [e2] at this; exact this
theorem eqB_congr {a b a' b' : List (Str × D)} (na : (a.map (·.1)).Nodup) (nb : (b.map (·.1)).Nodup) (na' : (a'.map (·.1)).Nodup) (nb' : (b'.map (·.1)).Nodup) (ha : ∀ x, getK a x = getK a' x) (hb : ∀ x, getK b x = getK b' x) : eqB a b = eqB a' b' := by
  rw [Bool.eq_iff_iff, eqB_iff na nb, eqB_iff na' nb']
  simp only [ha, hb]
theorem optR_comm {u v : Option D} : optR u v ↔ optR v u := by
  cases u <;> cases v <;> simp only [optR]
  rw [eqv_comm']
theorem eqB_comm {a b : List (Str × D)} (na : (a.map (·.1)).Nodup) (nb : (b.map (·.1)).Nodup) : eqB a b = eqB b a := by
  rw [Bool.eq_iff_iff, eqB_iff na nb, eqB_iff nb na]
  exact forall_congr' fun x => optR_comm
theorem eqB_same {a b : List (Str × D)} (na : (a.map (·.1)).Nodup) (nb : (b.map (·.1)).Nodup) (ha : DatA a) (h : ∀ x, getK a x = getK b x) : eqB a b = true := by
  rw [eqB_iff na nb]
  intro x
  rw [← h x]
  cases e : getK a x with
  | none => trivial
  | some d => exact eqv_self (by decide : 3 ≤ 59) (ha _ _ e)
theorem srt_nd {a : List (Str × D)} (h : (a.map (·.1)).Nodup) : ((srt a).map (·.1)).Nodup := by rw [srt_names]; exact sortT_nodup h
theorem DatA.srt {a : List (Str × D)} (h : DatA a) : DatA (srt a) := fun x d e => h x d (by rw [← getK_srt]; exact e)
/-- in the other order -/
theorem getK_rev {a : List (Str × D)} (h : (a.map (·.1)).Nodup) (x : Str) : getK a.reverse x = getK a x := by
  have nr : (a.reverse.map (·.1)).Nodup := by rw [List.map_reverse]; exact (List.reverse_perm _).nodup_iff.mpr h
  cases e : getK a x with
  | none =>
    refine getK_none.mpr fun z => getK_none.mp e ?_
    rw [List.map_reverse] at z
    exact List.mem_reverse.mp z
  | some d => exact getK_of_mem (p := (x, d)) nr (List.mem_reverse.mpr (mem_getK e))
/-! ### parts that make a schema -/
structure Pt3 (ts ks ss : List (Str × D)) : Prop where
  tb : TbS 4 ts
  ky : KyS ts ks
  nd : (ss.map (·.1)).Nodup
  sv : ∀ p ∈ ss, wordB p.1 = true ∧ isServD (DK ts) p.2 = true
  t1 : 1 ≤ ts.length
  t5 : ts.length ≤ 5
  k9 : ks.length ≤ 20
  s1 : 1 ≤ ss.length
  s8 : ss.length ≤ 8
def One (ts ks ss : List (Str × D)) : Prop := ∀ p ∈ ss, ∀ q ∈ ss, p.1 ≠ q.1 → wholeB ts ks p.2 = false → wholeB ts ks q.2 = false → tabS p.2 ≠ tabS q.2
section
variable {ts ks ss : List (Str × D)}
theorem Pt3.fine (h : Pt3 ts ks ss) (o : One ts ks ss) : sfault ts ks ss = none := drawn_fine h.tb (by decide) h.ky ⟨h.nd, h.sv, o⟩ h.t1 h.t5 h.s1 h.s8
theorem Pt3.kl (h : Pt3 ts ks ss) : ∀ x cs, getK ks x = some (.tup cs) → cs.length < 2 ^ 20 := fun x cs e => by
  obtain ⟨w, h1, h2⟩ := h.ky.kok _ _ e
  obtain ⟨_, w', h3, h4, h5⟩ := h.tb.at h1
  cases h3
  have : (colsB (-1) w cs && (decide (1 ≤ cs.length) && decide ((cs.length : Int) < w))) = true := h2
  simp only [Bool.and_eq_true, decide_eq_true_eq] at this
  omega
theorem Pt3.aT (h : Pt3 ts ks ss) : AscN ts := fun p hp => wordB_asc (h.tb.all p hp).1
theorem Pt3.aK (h : Pt3 ts ks ss) : AscN ks := fun p hp => by
  obtain ⟨w, h1, _⟩ := h.ky.all p hp
  exact wordB_asc (h.tb.at h1).1
theorem Pt3.aS (h : Pt3 ts ks ss) : AscN ss := fun p hp => wordB_asc (h.sv p hp).1
theorem Pt3.vals (h : Pt3 ts ks ss) (s : S) : Vals s ts ∧ Vals2 s ks ∧ Vals2 s ss := by
  have t5 := h.t5
  have k9 := h.k9
  have s8 := h.s8
  have len : ∀ {zs : List (Str × D)}, (∀ p ∈ zs, wordB p.1 = true) → ∀ p ∈ zs, p.1.length ≤ 10000 := fun h p hp => by have := (wordB_len (h p hp)).2; omega
  refine ⟨⟨by omega, fun p hp => ⟨len (fun p hp => (h.tb.all p hp).1) p hp, ?_⟩⟩, ⟨by omega, fun p hp => ⟨len (fun p hp => ?_) p hp, ?_⟩⟩, ⟨by omega, fun p hp => ⟨len (fun p hp => (h.sv p hp).1) p hp, ?_⟩⟩⟩
  · obtain ⟨_, w, e, _⟩ := h.tb.all p hp
    rw [e]; trivial
  · obtain ⟨w, h1, _⟩ := h.ky.all p hp
    exact (h.tb.at h1).1
  · obtain ⟨w, h1, h2⟩ := h.ky.all p hp
    cases e : p.2 <;> rw [e] at h2 <;> first
      | (cases h2; done)
      | (simp only [keyB, Bool.and_eq_true] at h2
         refine ⟨trivial, fun ds e2 z hz => ?_⟩
         cases e2
         obtain ⟨i, rfl⟩ := colsB_int h2.1 z hz
         exact ⟨trivial, (fun _ e => nomatch e), fun _ e => nomatch e⟩)
  · obtain ⟨tt, g, c, w, h3, h4, h5, h6⟩ := serv_shape (h.sv p hp).2
    rw [h3]
    refine ⟨trivial, fun ds e2 z hz => ?_⟩
    cases e2
    simp only [List.mem_cons, List.not_mem_nil, or_false] at hz
    have wl := (wordB_len (h.tb.at h4).1).2
    rcases hz with rfl | rfl | rfl
    · exact ⟨trivial, fun x e => by cases e; omega, fun _ e => nomatch e⟩
    · refine ⟨trivial, (fun _ e => nomatch e), fun es e y hy => ?_⟩
      cases e
      obtain ⟨i, rfl⟩ := colsB_int h5 y hy
      trivial
    · cases z <;> first
        | (cases h6; done)
        | exact ⟨trivial, (fun _ e => nomatch e), fun _ e => nomatch e⟩
theorem Pt3.dat (h : Pt3 ts ks ss) : DatA ts ∧ DatA ks ∧ DatA ss := by
  have cols : ∀ {l w : Int} {g : List D} {k : Nat}, colsB l w g = true → dataD (k + 1) (.tup g) := fun h => by
    simp only [dataD]
    intro z hz
    obtain ⟨i, rfl⟩ := colsB_int h z hz
    exact data_fl (d := .int i) trivial
  refine ⟨fun x d e => ?_, fun x d e => ?_, fun x d e => ?_⟩
  · obtain ⟨_, w, rfl, _⟩ := h.tb.at e
    exact data_fl (d := .int w) trivial
  · obtain ⟨w, _, h5⟩ := h.ky.kok _ _ e
    cases d <;> first
      | (cases h5; done)
      | (simp only [keyB, Bool.and_eq_true] at h5
         exact cols h5.1)
  · obtain ⟨t, g, c, w, rfl, t1, t2, t3⟩ := serv_shape (h.sv _ (mem_getK e)).2
    simp only [dataD]
    intro z hz
    simp only [List.mem_cons, List.not_mem_nil, or_false] at hz
    rcases hz with rfl | rfl | rfl
    · exact data_fl (d := .str t) (wordB_asc (h.tb.at t1).1)
    · exact cols t2
    · cases z <;> first
        | (cases t3; done)
        | exact data_fl (d := .non) trivial
        | exact data_fl (d := .int _) trivial
theorem Pt3.srv (h : Pt3 ts ks ss) : ∀ y d, getK ss y = some d → isServD (DK ts) d = true := fun y d e => (h.sv _ (mem_getK e)).2
/-- Schema(..) of fine parts -/
theorem mk_sch {Γ : Ga} (b : BP Γ) {k : Nat} (hk : 5 ≤ k) {s : S} {n m q : Nat} (hn : s[n]? = some (.dct (DK ts))) (hm : s[m]? = some (.dct (DK ks))) (hq : s[q]? = some (.dct (DK ss))) (h : Pt3 ts ks ss) (o : One ts ks ss) :
    ∃ s', Gp s s' ∧ mkD (clF Γ k) "Schema" 76 [.ref n, .ref m, .ref q] s = .ok (.ref s.length) s' ∧ Sch s' (s.length + 1) s.length ts ks ss := by
  obtain ⟨v1, v2, v3⟩ := h.vals s
  obtain ⟨s', g, mk⟩ := schema_mk b hk hn hm hq v1 v2 v3 h.tb.nd h.ky.nd h.nd
  rw [h.fine o] at mk
  obtain ⟨mk, ini⟩ := mk
  have cn := capL_none (ts := ts) (ks := ks) o (nm ss) [] [] (sortT_nodup h.nd) (fun y hy => mem_sortT.mp hy) (by simp)
  exact ⟨s', g, mk, ⟨⟨_, _, ini, by rw [capL_W _ _ _ cn]; rfl⟩⟩⟩
end
end SL

set_option Elab.async false
set_option linter.all false
set_option maxRecDepth 100000
set_option autoImplicit false
set_option maxHeartbeats 1000000
/-! SLu: parts of a schema spoiled: what holds of the dicts. -/
namespace SL
open PySem L2 G
local macro_rules | `(tactic| walk_at "ev") => `(tactic| simp only [evE, evT, ev, evs, plainT, asB, evPart, List.getElem?_cons_zero, List.getElem?_cons_succ, List.set_cons_zero, List.set_cons_succ, Cst.d, Ex.isNop, R.bind_ok, R.toS_ok, if_true, Bool.not_true, Bool.not_false, Bool.false_eq_true, if_false, addI, subI, eqI, *])
/-- what may stand within a tuple; what may stand in a dict -/
def El (s : S) (z : D) : Prop := Pl s z ∧ (∀ x, z = .str x → x.length ≤ 10000) ∧ ∀ es, z = .tup es → es.length < 2 ^ 20 ∧ ∀ y ∈ es, Pl s y
def Vv (s : S) (d : D) : Prop := Pl s d ∧ ∀ ds, d = .tup ds → ds.length < 2 ^ 20 ∧ ∀ z ∈ ds, El s z
theorem El.kd {s s' : S} (h : Kd s s') {d : D} (p : El s d) : El s' d := ⟨p.1.kd h, p.2.1, fun es e => ⟨(p.2.2 es e).1, fun y hy => ((p.2.2 es e).2 y hy).kd h⟩⟩
theorem Vv.kd {s s' : S} (h : Kd s s') {d : D} (p : Vv s d) : Vv s' d := ⟨p.1.kd h, fun ds e => ⟨(p.2 ds e).1, fun z hz => ((p.2 ds e).2 z hz).kd h⟩⟩
theorem Vv.sv {s : S} {d : D} (p : Vv s d) : SvOk s d := ⟨p.1, fun ds e z hz => let q := (p.2 ds e).2 z hz; ⟨q.1, q.2.1, fun es e2 => (q.2.2 es e2).2⟩⟩
theorem Vv.sh {s : S} {d : D} (p : Vv s d) : ShT d := fun ds e z hz es e2 => Nat.lt_trans (((p.2 ds e).2 z hz).2.2 es e2).1 (by decide)
theorem El.tup {s : S} {es : List D} (h : es.length < 2 ^ 20) (hy : ∀ y ∈ es, Pl s y) : El s (.tup es) := ⟨trivial, (fun x e => nomatch e), fun es' e => by cases e; exact ⟨h, hy⟩⟩
theorem Vv.tup {s : S} {es : List D} (h : es.length < 2 ^ 20) (hy : ∀ y ∈ es, El s y) : Vv s (.tup es) := ⟨trivial, fun es' e => by cases e; exact ⟨h, hy⟩⟩
theorem El.str {s : S} {x : Str} (h : x.length ≤ 10000) : El s (.str x) := ⟨trivial, fun y e => by cases e; exact h, (fun _ e => nomatch e)⟩
theorem El.int {s : S} {i : Int} : El s (.int i) := ⟨trivial, (fun _ e => nomatch e), (fun _ e => nomatch e)⟩
theorem El.bl {s : S} {i : Bool} : El s (.bl i) := ⟨trivial, (fun _ e => nomatch e), (fun _ e => nomatch e)⟩
theorem El.non {s : S} : El s .non := ⟨trivial, (fun _ e => nomatch e), (fun _ e => nomatch e)⟩
theorem El.ref {s : S} {n : Nat} {ds : List D} (h : s[n]? = some (.lst ds)) : El s (.ref n) := ⟨.inl ⟨ds, h⟩, (fun _ e => nomatch e), (fun _ e => nomatch e)⟩
theorem Vv.int {s : S} {i : Int} : Vv s (.int i) := ⟨trivial, fun _ e => nomatch e⟩
theorem Vv.non {s : S} : Vv s .non := ⟨trivial, fun _ e => nomatch e⟩
theorem Vv.ref {s : S} {n : Nat} {ds : List D} (h : s[n]? = some (.lst ds)) : Vv s (.ref n) := ⟨.inl ⟨ds, h⟩, fun _ e => nomatch e⟩
/-- a dict that is spoiled -/
structure Dc (P : S → D → Prop) (s : S) (a : Nat) (ts : List (Str × D)) (L B : Nat) : Prop where
  at_ : s[a]? = some (.dct (DK ts))
  nd : (ts.map (·.1)).Nodup
  len : ts.length ≤ B
  all : ∀ p ∈ ts, Asc p.1 ∧ p.1.length ≤ L ∧ P s p.2
def KdM (P : S → D → Prop) : Prop := ∀ s s' d, Kd s s' → P s d → P s' d
def FlS (_ : S) (d : D) : Prop := FlA d
theorem kdm_fl : KdM FlS := fun _ _ _ _ h => h
theorem kdm_vv : KdM Vv := fun _ _ _ k h => h.kd k
section
variable {P : S → D → Prop} {s s' : S} {a : Nat} {ts : List (Str × D)} {L B L' B' : Nat}
theorem Dc.mono (h : Dc P s a ts L B) (l : L ≤ L') (b : B ≤ B') : Dc P s a ts L' B' := ⟨h.at_, h.nd, Nat.le_trans h.len b, fun p hp => ⟨(h.all p hp).1, Nat.le_trans (h.all p hp).2.1 l, (h.all p hp).2.2⟩⟩
theorem Dc.kd (m : KdM P) (h : Dc P s a ts L B) (k : Kd s s') (e : s'[a]? = some (.dct (DK ts))) : Dc P s' a ts L B := ⟨e, h.nd, h.len, fun p hp => ⟨(h.all p hp).1, (h.all p hp).2.1, m _ _ _ k (h.all p hp).2.2⟩⟩
theorem kd_set {o o' : O} (h : s[a]? = some o) (e : kndO o' = kndO o) : Kd s (s.set a o') := fun j p hj => by
  by_cases q : a = j
  · subst q
    rw [h] at hj
    cases hj
    exact ⟨o', set_get (List.getElem?_eq_some_iff.mp h).1, e⟩
  · exact ⟨p, by rw [List.getElem?_set_ne q]; exact hj, rfl⟩
theorem Dc.put (m : KdM P) (h : Dc P s a ts L B) {x : Str} {v : D} (hx : Asc x) (hl : x.length ≤ L) (hv : P s v) (hB : B < 64) :
    setD (.ref a) (.str x) v s = some (s.set a (.dct (DK (setK ts x v)))) ∧ Kd s (s.set a (.dct (DK (setK ts x v)))) ∧ Dc P (s.set a (.dct (DK (setK ts x v)))) a (setK ts x v) L (B + 1) := by
  have k : Kd s (s.set a (.dct (DK (setK ts x v)))) := kd_set h.at_ rfl
  refine ⟨put_dct h.at_ (by have := h.len; omega), k, set_get (List.getElem?_eq_some_iff.mp h.at_).1, setK_nodup h.nd, by have := h.len; have := (setK_len (ts := ts) (x := x) (v := v)).2.1; omega, fun p hp => ?_⟩
  rcases mem_setK hp with hp | rfl
  · exact ⟨(h.all p hp.1).1, (h.all p hp.1).2.1, m _ _ _ k (h.all p hp.1).2.2⟩
  · exact ⟨hx, hl, m _ _ _ k hv⟩
theorem Dc.name (h : Dc P s a ts L B) {x : Str} (hx : x ∈ ts.map (·.1)) : Asc x ∧ x.length ≤ L := by
  obtain ⟨p, hp, rfl⟩ := List.mem_map.mp hx
  exact ⟨(h.all p hp).1, (h.all p hp).2.1⟩
/-- cleared -/
theorem Dc.clear (h : Dc P s a ts L B) : mSel .clear (.ref a) s = some .dclear ∧ mtD .dclear (.ref a) [] s = .ok .non (s.set a (.dct (DK []))) ∧ Kd s (s.set a (.dct (DK []))) ∧ Dc P (s.set a (.dct (DK []))) a [] L B := by
  refine ⟨by simp only [mSel, h.at_]; rfl, by simp only [mtD, h.at_]; rfl, kd_set h.at_ rfl, set_get (List.getElem?_eq_some_iff.mp h.at_).1, by simp, by simp, by simp⟩
end
theorem Gd.kdX {n a : Nat} {s s' : S} (p : PoolAt n s) (h : Gd n [a] s s') {o o' : O} (h1 : s[a]? = some o) (h2 : s'[a]? = some o') (e : kndO o' = kndO o) : Kd s s' := fun j q hj => by
  by_cases z : j = n
  · subst z
    obtain ⟨ds, e1⟩ := p.lst
    obtain ⟨ds', e2⟩ := h.pool.lst
    rw [e1] at hj
    cases hj
    exact ⟨_, e2, rfl⟩
  · by_cases y : j = a
    · subst y
      rw [h1] at hj
      cases hj
      exact ⟨o', h2, e⟩
    · exact ⟨q, h.keep j q z (by simpa using y) hj, rfl⟩
structure BS (Γ : Ga) : Prop extends BD2 Γ, BL Γ where
  h116 : Γ.fns.lookup 116 = some f116
  h286 : Γ.fns.lookup 286 = some f286
  h322 : Γ.fns.lookup 322 = some f322
  h284 : Γ.fns.lookup 284 = some f284
  h285 : Γ.fns.lookup 285 = some f285
/-- _law_pick of a list that is made for it -/
theorem pick_new {Γ : Ga} (b : BD2 Γ) {k : Nat} (hk : 3 ≤ k) {τ : Fr} {s s1 : S} {n : Nat} {es : Exs} {ds : List D} (p : PoolAt n s1) (h0 : τ[0]? = some (some (.ref n))) (he : evs (clF Γ k) es τ s = .ok ds s1) (h1 : 1 ≤ ds.length) (h2 : ds.length ≤ 10000) :
    ∃ d s', evE (clF Γ k) (.call 247 (.cons (.var 0) (.cons (.lst es) .nil))) τ s = .ok d s' ∧ d ∈ ds ∧ Gd n [] s1 s' := by
  have g := Gd.new p (.lst ds)
  obtain ⟨d, s', e, hd, g2⟩ := draw_pick b hk g.pool (l := s1.length) new_at (p.ne (Nat.le_refl _)) h1 h2
  refine ⟨d, s', ?_, hd, g.trans g2⟩
  simp only [evE, ev, evs, plainT, h0, R.bind_ok, he, new, e]
/-- _law_pick(list(d)) -/
theorem pick_name {Γ : Ga} (b : BD2 Γ) {k : Nat} (hk : 3 ≤ k) {τ : Fr} {s : S} {n a i : Nat} {ts : List (Str × D)} (p : PoolAt n s) (h0 : τ[0]? = some (some (.ref n))) (hi : τ[i]? = some (some (.ref a))) (h : s[a]? = some (.dct (DK ts))) (h1 : 1 ≤ ts.length) (h2 : ts.length ≤ 64) :
    ∃ x s', evE (clF Γ k) (.call 247 (.cons (.var 0) (.cons (.blt .list (.cons (.var i) .nil)) .nil))) τ s = .ok (.str x) s' ∧ x ∈ ts.map (·.1) ∧ Gd n [] s s' := by
  have g := Gd.new p (.lst ((ts.map (·.1)).map .str))
  obtain ⟨d, s', e, hd, g2⟩ := draw_pick b hk g.pool (l := s.length) new_at (p.ne (Nat.le_refl _)) (by simpa using h1) (by simp; omega)
  obtain ⟨x, hx, rfl⟩ := List.mem_map.mp hd
  refine ⟨x, s', ?_, hx, g.trans g2⟩
  simp only [evE, ev, evs, plainT, h0, hi, R.bind_ok, list_dct h, e]
theorem width_ok {Γ : Ga} (b : BS Γ) {k : Nat} (hk : 1 ≤ k) {s : S} {t : Nat} {ts : List (Str × D)} {x : Str} (h : s[t]? = some (.dct (DK ts))) (hv : ∀ p ∈ ts, FlA p.2) :
    ∃ w s', (clF Γ k).call 322 [.ref t, .str x] s = .ok (.int w) s' ∧ Gp s s' ∧ 1 ≤ w ∧ w ≤ 4 := by
  obtain ⟨j, rfl, hj⟩ := lv hk
  obtain ⟨d, hd⟩ : ∃ d, d = (getK ts x).getD (.int 2) := ⟨_, rfl⟩
  have fd : FlA d := by
    subst hd
    cases e : getK ts x with
    | none => trivial
    | some v => exact hv _ (mem_getK e)
  have hms : mSel .get (.ref t) s = some .dget := by simp only [mSel, h]; rfl
  have hg : mtD .dget (.ref t) [.str x, .int 2] s = .ok d s := by simp only [mtD, h, keyD, getK_DK, hd]
  have g := Gp.new s (.lst [.int 1, .int 2, .int 3, .int 4])
  have la : (s ++ [O.lst [.int 1, .int 2, .int 3, .int 4]])[s.length]? = some (.lst [.int 1, .int 2, .int 3, .int 4]) := new_at
  have hfl : ∀ z ∈ ([.int 1, .int 2, .int 3, .int 4] : List D), FlA z := fun z hz => by
    simp only [List.mem_cons, List.not_mem_nil, or_false] at hz
    rcases hz with rfl | rfl | rfl | rfl <;> trivial
  have hin : inD d (.ref s.length) (s ++ [O.lst [.int 1, .int 2, .int 3, .int 4]]) = .ok (([.int 1, .int 2, .int 3, .int 4] : List PyData).any fun z => PyData.eqv z (flP d)) (s ++ [O.lst [.int 1, .int 2, .int 3, .int 4]]) := by
    have : inD d (.ref s.length) (s ++ [O.lst [.int 1, .int 2, .int 3, .int 4]]) = (match toP 60 (s ++ [O.lst [.int 1, .int 2, .int 3, .int 4]]) d, toP 60 (s ++ [O.lst [.int 1, .int 2, .int 3, .int 4]]) (.ref s.length) with
      | some d, some (.list ds) => if SeqAt.shaped d = true ∧ SeqAt.shaped (.list ds) = true then .ok (ds.any fun z => PyData.eqv z d) (s ++ [O.lst [.int 1, .int 2, .int 3, .int 4]]) else .bad
      | _, _ => .bad) := by
      cases d <;> first
        | (simp only [inD, la]; done)
        | (simp only [inD, la]; rfl)
    rw [this, toP_fl fd, toP_ref la, toPs_fl hfl, Option.map_some]
    simp only []
    rw [if_pos ⟨shp_fl fd, shp_lst hfl⟩]
    rfl
  have c1 : evT (clF Γ j) (.cmp .nin (.var 2) (.lst (.cons (.cst (.int 1)) (.cons (.cst (.int 2)) (.cons (.cst (.int 3)) (.cons (.cst (.int 4)) .nil)))))) [some (.ref t), some (.str x), some d] s = .ok (!(([.int 1, .int 2, .int 3, .int 4] : List PyData).any fun z => PyData.eqv z (flP d))) (s ++ [O.lst [.int 1, .int 2, .int 3, .int 4]]) := by
    simp only [evT, ev, evs, plainT, asB, List.getElem?_cons_zero, List.getElem?_cons_succ, R.bind_ok, Cst.d, new, cmpD, hin]
  have st : ∀ {d' s'}, exs (clF Γ j) (.cons (.ite (.cmp .nin (.var 2) (.lst (.cons (.cst (.int 1)) (.cons (.cst (.int 2)) (.cons (.cst (.int 3)) (.cons (.cst (.int 4)) .nil)))))) (.cons (.ret (.cst (.int 2))) .nil) (.nil))
    (.cons (.ret (.blt .int (.cons (.var 2) .nil))) .nil)) [some (.ref t), some (.str x), some d] s = .rt d' s' → (clF Γ (j + 1)).call 322 [.ref t, .str x] s = .ok d' s' := fun h =>
    call_rt b.h322 (τ := [some (.ref t), some (.str x), none]) rfl rfl ((exs_asg (d := d) (s' := s) (by walk_at "ev")).trans h)
  have no : (([.int 1, .int 2, .int 3, .int 4] : List PyData).any fun z => PyData.eqv z (flP d)) = false → ∃ w s', (clF Γ (j + 1)).call 322 [.ref t, .str x] s = .ok (.int w) s' ∧ Gp s s' ∧ 1 ≤ w ∧ w ≤ 4 := fun e => by
    rw [e] at c1
    exact ⟨2, _, st (exs_in c1 rfl), g, by decide, by decide⟩
  clear hg hd hin
  cases d with
  | int i =>
    by_cases hi : 1 ≤ i ∧ i ≤ 4
    · have e : (([.int 1, .int 2, .int 3, .int 4] : List PyData).any fun z => PyData.eqv z (flP (.int i))) = true := by
        have : i = 1 ∨ i = 2 ∨ i = 3 ∨ i = 4 := by omega
        rcases this with rfl | rfl | rfl | rfl <;> rfl
      rw [e] at c1
      exact ⟨i, _, st ((exs_skip c1).trans (exs_ret rfl)), g, hi.1, hi.2⟩
    · refine no ?_
      simp only [List.any_cons, List.any_nil, PyData.eqv, flP, Bool.or_false, Bool.or_eq_false_iff, beq_eq_false_iff_ne, ne_eq]
      omega
  | bl i =>
    cases i with
    | true =>
      rw [show (([.int 1, .int 2, .int 3, .int 4] : List PyData).any fun z => PyData.eqv z (flP (.bl true))) = true from rfl] at c1
      exact ⟨1, _, st ((exs_skip c1).trans (exs_ret rfl)), g, by decide, by decide⟩
    | false => exact no rfl
  | non => exact no rfl
  | str y => exact no rfl
  | tup _ => exact fd.elim
  | flst _ => exact fd.elim
  | ref _ => exact fd.elim
theorem bad_columns {Γ : Ga} (b : BS Γ) {k : Nat} (hk : 4 ≤ k) {s : S} {n : Nat} {w : Int} (p : PoolAt n s) :
    ∃ d s', (clF Γ k).call 116 [.ref n, .int w] s = .ok d s' ∧ Gd n [] s s' ∧ El s' d ∧ Vv s' d := by
  obtain ⟨j, rfl, hj⟩ := lv hk
  have g := Gd.new p (.lst [.int 0])
  obtain ⟨d, s', e, hd, g2⟩ := pick_new b.toBD2 (k := j) hj (τ := [some (.ref n), some (.int w)]) (s := s) (es := (.cons (.tup (.cons (.var 1) .nil)) (.cons (.tup (.cons (.cst (.int 0)) (.cons (.cst (.int 0)) .nil))) (.cons (.tup (.cons (.cst (.int 1)) (.cons (.cst (.int 0)) .nil))) (.cons (.lst (.cons (.cst (.int 0)) .nil)) (.cons (.tup (.cons (.cst (.bl true)) .nil)) (.cons (.tup (.cons (.neg (.cst (.int 1))) .nil)) (.cons (.cst .non) (.cons (.tup (.cons (.cst (.str "a")) .nil)) (.cons (.cst (.int 0)) (.cons (.tup (.cons (.cst (.int 0)) (.cons (.cst (.int 1)) (.cons (.cst (.int 2)) (.cons (.cst (.int 3)) (.cons (.cst (.int 4)) .nil)))))) .nil))))))))))) (ds := [.tup [.int w], .tup [.int 0, .int 0], .tup [.int 1, .int 0], .ref s.length, .tup [.bl true], .tup [.int (-1)], .non, .tup [.str "a"], .int 0, .tup [.int 0, .int 1, .int 2, .int 3, .int 4]]) g.pool rfl rfl (by simp) (by simp)
  refine ⟨d, s', call_rt b.h116 (τ := [some (.ref n), some (.int w)]) rfl rfl (exs_ret e), g.trans g2, ?_⟩
  have hr := g2.at (p.ne (Nat.le_refl _)) (new_at (s := s) (o := .lst [.int 0]))
  have hp : ∀ es : List D, (∀ y ∈ es, El s' y) → es.length < 2 ^ 20 → El s' (.tup es) ∧ Vv s' (.tup es) := fun es h1 h2 => ⟨El.tup h2 fun y hy => (h1 y hy).1, Vv.tup h2 h1⟩
  have ln : (("a" : Str)).length ≤ 10000 := by decide +kernel
  simp only [List.mem_cons, List.not_mem_nil, or_false] at hd
  rcases hd with rfl | rfl | rfl | rfl | rfl | rfl | rfl | rfl | rfl | rfl
  · exact hp _ (fun y hy => by simp at hy; subst hy; exact El.int) (by simp)
  · exact hp _ (fun y hy => by simp at hy; subst hy; exact El.int) (by simp)
  · exact hp _ (fun y hy => by simp at hy; rcases hy with rfl | rfl <;> exact El.int) (by simp)
  · exact ⟨El.ref hr, Vv.ref hr⟩
  · exact hp _ (fun y hy => by simp at hy; subst hy; exact El.bl) (by simp)
  · exact hp _ (fun y hy => by simp at hy; subst hy; exact El.int) (by simp)
  · exact ⟨El.non, Vv.non⟩
  · exact hp _ (fun y hy => by simp at hy; subst hy; exact El.str ln) (by simp)
  · exact ⟨El.int, Vv.int⟩
  · exact hp _ (fun y hy => by simp at hy; rcases hy with rfl | rfl | rfl | rfl | rfl <;> exact El.int) (by simp)
end SL

set_option Elab.async false
set_option linter.all false
set_option maxRecDepth 100000
set_option autoImplicit false
set_option maxHeartbeats 1000000
/-! SNb: parts turned round, changed, looked at. -/
namespace SL
open PySem L2 G
structure BE (Γ : Ga) : Prop extends BC Γ, BD2 Γ where
  h307 : Γ.fns.lookup 307 = some f307
  h133 : Γ.fns.lookup 133 = some f133
  h163 : Γ.fns.lookup 163 = some f163
  h309 : Γ.fns.lookup 309 = some f309
  h310 : Γ.fns.lookup 310 = some f310
  h75 : Γ.fns.lookup 75 = some f75
  h86 : Γ.fns.lookup 86 = some f86
  hm2 : ∃ k, Γ.cls.lookup ("Schema" : Str) = some k ∧ k.mths.lookup ("capped_names" : Str) = some 77 ∧ k.mths.lookup ("uncapped" : Str) = some 86 ∧ k.mths.lookup ("__eq__" : Str) = some 75
  hus : ∃ e, Γ.ecl.lookup ("UnknownName" : Str) = some e ∧ e.fields = (["name"] : List Str) ∧ e.sups.contains "UnknownName" = true ∧ e.sups.contains "CappedError" = true
section
variable {Γ : Ga} {s : S} {ts ks ss : List (Str × D)}
theorem turned_ok (b : BE Γ) {k : Nat} (hk : 1 ≤ k) {t : Nat} (ht : s[t]? = some (.dct (DK ts))) (nd : (ts.map (·.1)).Nodup) (hl : ts.length < 64) :
    ∃ a s', (clF Γ k).call 307 [.ref t] s = .ok (.ref a) s' ∧ Gp s s' ∧ s'[a]? = some (.dct (DK ts.reverse)) ∧ s.length ≤ a := by
  obtain ⟨j, rfl, hj⟩ := lv hk
  have g1 := Gp.new s (.dct (DK []))
  have g2 := Gp.new (s ++ [.dct (DK [])]) (.lst ((ts.map (·.1)).map .str))
  have g3 := Gp.new ((s ++ [.dct (DK [])]) ++ [.lst ((ts.map (·.1)).map .str)]) (.lst ((ts.map (·.1)).map D.str).reverse)
  obtain ⟨s3, hs3⟩ : ∃ s3 : S, s3 = ((s ++ [.dct (DK [])]) ++ [.lst ((ts.map (·.1)).map .str)]) ++ [.lst ((ts.map (·.1)).map D.str).reverse] := ⟨_, rfl⟩
  obtain ⟨l, hl3⟩ : ∃ l, l = ((s ++ [O.dct (DK [])]) ++ [O.lst ((ts.map (·.1)).map .str)]).length := ⟨_, rfl⟩
  have G3 : Gp s s3 := by rw [hs3]; exact (g1.trans g2).trans g3
  have at3 : s3[s.length]? = some (.dct (DK [])) := by rw [hs3]; exact g3 _ _ (g2 _ _ new_at)
  have l3 : s3[l]? = some (.lst ((ts.reverse.map (·.1)).map .str)) := by
    rw [hs3, hl3, new_at]
    congr 2
    rw [List.map_reverse, List.map_reverse]
  have ll := list_dct (g1 _ _ ht)
  have lr : lrvD (.ref (s ++ [O.dct (DK [])]).length) ((s ++ [.dct (DK [])]) ++ [.lst ((ts.map (·.1)).map .str)]) = .ok (.ref l) s3 := by
    rw [hl3, hs3]
    simp only [lrvD, lstAt_of (new_at (s := s ++ [O.dct (DK [])])), new]
  have lt3 := (List.getElem?_eq_some_iff.mp at3).1
  have hla : l ≠ s.length := by rw [hl3]; simp
  have hta : t ≠ s.length := by have := (List.getElem?_eq_some_iff.mp ht).1; omega
  have nr : (ts.reverse.map (·.1)).Nodup := by rw [List.map_reverse]; exact (List.reverse_perm _).nodup_iff.mpr nd
  obtain ⟨τ', s', h1, ⟨c, rfl⟩, rfl⟩ := forS_inv (ok := (Src.lst l ((ts.reverse.map (·.1)).map .str)).ok) (g := forB (clF Γ j) (.var 2) (.cons (.asg (.sub (.var 1) (.var 2)) (.ix (.var 0) (.var 2))) .nil)) (items := (ts.reverse.map (·.1)).map .str) (τ := [some (.ref t), some (.ref s.length), none]) (s := s3)
    (fun i τ s' => (∃ c, τ = [some (.ref t), some (.ref s.length), c]) ∧ s' = s3.set s.length (.dct (DK (ts.reverse.take i)))) (fun i τ s' ⟨_, e⟩ => by
      rw [e]; exact lstAt_of (by rw [List.getElem?_set_ne (Ne.symm hla)]; exact l3)) (fun i d τ s' hi ⟨⟨c, hτ⟩, hs'⟩ => by
      subst hτ hs'
      rw [List.getElem?_map, Option.map_eq_some_iff] at hi
      obtain ⟨x, hxi, rfl⟩ := hi
      rw [List.getElem?_map, Option.map_eq_some_iff] at hxi
      obtain ⟨p, hp, rfl⟩ := hxi
      have hmem : p ∈ ts := List.mem_reverse.mp (List.mem_of_getElem? hp)
      have hil := (List.getElem?_eq_some_iff.mp hp).1
      rw [List.length_reverse] at hil
      have tk : ts.reverse.take (i + 1) = ts.reverse.take i ++ [p] := by rw [List.take_add_one, hp]; rfl
      have hx : p.1 ∉ (ts.reverse.take i).map (·.1) := fun z => by
        have := nr
        rw [← List.take_append_drop (i + 1) ts.reverse, tk, List.map_append, List.map_append] at this
        have := (List.nodup_append.mp (List.nodup_append.mp this).1).2.2
        exact this p.1 z p.1 (by simp) rfl
      have ix := ix_dct (s := s3.set s.length (.dct (DK (ts.reverse.take i)))) (n := t) (x := p.1) (d := p.2) (kvs := DK ts) (by rw [List.getElem?_set_ne (Ne.symm hta)]; exact G3 _ _ ht) (by rw [getK_DK]; exact getK_of_mem nd hmem)
      have st := set_dct (x := p.1) (d := p.2) (set_get (s := s3) (o := .dct (DK (ts.reverse.take i))) lt3) (by rw [List.length_take, List.length_reverse]; omega) hx
      rw [← tk, List.set_set] at st
      refine ⟨[some (.ref t), some (.ref s.length), some (.str p.1)], _, ?_, ⟨_, rfl⟩, rfl⟩
      rw [forB_var]
      refine (exs_sub (d := p.2) (x := .ref s.length) (y := .str p.1) (s1 := s3.set s.length (.dct (DK (ts.reverse.take i)))) (s2 := s3.set s.length (.dct (DK (ts.reverse.take i)))) (s3 := s3.set s.length (.dct (DK (ts.reverse.take i)))) ?_ rfl rfl st).trans rfl
      simp only [evE, ev, plainT, List.set_cons_succ, List.set_cons_zero, List.getElem?_cons_zero, List.getElem?_cons_succ, R.bind_ok, ix]) ⟨⟨none, rfl⟩, by
        apply List.ext_getElem?
        intro jj
        by_cases e : s.length = jj
        · subst e; rw [set_get lt3, at3]; rfl
        · rw [List.getElem?_set_ne e]⟩
  have full : ts.reverse.take ((ts.reverse.map (·.1)).map D.str).length = ts.reverse := by
    rw [List.length_map, List.length_map]; exact List.take_length
  rw [full] at h1
  refine ⟨s.length, s3.set s.length (.dct (DK ts.reverse)), call_rt b.h307 (τ := [some (.ref t), none, none]) rfl rfl ?_, G3.set_new (Nat.le_refl _), set_get lt3, Nat.le_refl _⟩
  refine (exs_asg (d := .ref s.length) (s' := s ++ [.dct (DK [])]) rfl).trans ?_
  refine (exs_nx (τ' := [some (.ref t), some (.ref s.length), c]) ?_).trans (exs_ret (d := .ref s.length) rfl)
  refine (ex_for (ds := [.ref l]) (s1 := s3) (src := .lst l ((ts.reverse.map (·.1)).map .str)) ?_ (by simp only [srcOf, lstAt_of l3])).trans h1
  simp only [evs, ev, plainT, List.set_cons_succ, List.set_cons_zero, List.getElem?_cons_zero, R.bind_ok, ll, lr]
/-! ### one capped service at most for each table -/
def fitL (ts ks ss : List (Str × D)) : List Str → List Str → Bool
  | [], _ => true
  | y :: ys, F => if wholeB ts ks ((getK ss y).getD .non) = true then fitL ts ks ss ys F else if tabS ((getK ss y).getD .non) ∈ F then false else fitL ts ks ss ys (F ++ [tabS ((getK ss y).getD .non)])
theorem fitL_one : ∀ (ys F : List Str), fitL ts ks ss ys F = true → ys.Nodup → ∀ y ∈ ys, wholeB ts ks ((getK ss y).getD .non) = false → tabS ((getK ss y).getD .non) ∉ F ∧ ∀ z ∈ ys, y ≠ z → wholeB ts ks ((getK ss z).getD .non) = false → tabS ((getK ss y).getD .non) ≠ tabS ((getK ss z).getD .non)
  | [], _, _, _, y, hy, _ => nomatch hy
  | x :: ys, F, h, hn, y, hy, hw => by
    have hn := List.nodup_cons.mp hn
    simp only [fitL] at h
    split at h
    · rename_i hx
      have ih := fitL_one ys F h hn.2
      rcases List.mem_cons.mp hy with rfl | hy
      · rw [hx] at hw; cases hw
      · obtain ⟨a1, a2⟩ := ih y hy hw
        refine ⟨a1, fun z hz ne hz2 => ?_⟩
        rcases List.mem_cons.mp hz with rfl | hz
        · rw [hx] at hz2; cases hz2
        · exact a2 z hz ne hz2
    · split at h
      · cases h
      · rename_i hx hF
        have ih := fitL_one ys _ h hn.2
        rcases List.mem_cons.mp hy with rfl | hy
        · refine ⟨hF, fun z hz ne hz2 => ?_⟩
          rcases List.mem_cons.mp hz with rfl | hz
          · exact absurd rfl ne
          · intro e
            exact (ih z hz hz2).1 (by rw [← e]; simp)
        · obtain ⟨a1, a2⟩ := ih y hy hw
          refine ⟨fun z => a1 (by simp [z]), fun z hz ne hz2 => ?_⟩
          rcases List.mem_cons.mp hz with rfl | hz
          · intro e
            exact a1 (by rw [e]; simp)
          · exact a2 z hz ne hz2
theorem fit_one (h : Pt3 ts ks ss) (e : fitL ts ks ss (ss.map (·.1)) [] = true) : One ts ks ss := fun p hp q hq ne hp2 hq2 => by
  have k1 := getK_of_mem h.nd hp
  have k2 := getK_of_mem h.nd hq
  have := (fitL_one _ _ e h.nd p.1 (List.mem_map.mpr ⟨p, hp, rfl⟩) (by rw [k1]; exact hp2)).2 q.1 (List.mem_map.mpr ⟨q, hq, rfl⟩) ne (by rw [k2]; exact hq2)
  rw [k1, k2] at this
  exact this
def fitBody : Cms := .cons (.ite (.not (.call 198 (.cons (.var 0) (.cons (.var 1) (.cons (.ix (.var 2) (.var 4)) .nil))))) (.cons (.ite (.cmp .inn (.ix (.ix (.var 2) (.var 4)) (.cst (.int 0))) (.var 3)) (.cons (.ret (.cst (.bl false))) .nil) (.nil))
    (.cons (.expr (.meth .append (.var 3) (.cons (.ix (.ix (.var 2) (.var 4)) (.cst (.int 0))) .nil))) .nil)) (.nil)) .nil
theorem fit_loop (b : BW Γ) {k : Nat} (hk : 1 ≤ k) {n m q f : Nat} {ok : S → Prop} (hok : ∀ s', Grx f s s' → ok s') (nf : n ≠ f) (mf : m ≠ f) (qf : q ≠ f)
    (hn : s[n]? = some (.dct (DK ts))) (hm : s[m]? = some (.dct (DK ks))) (hq : s[q]? = some (.dct (DK ss))) (h : Pt3 ts ks ss) :
    ∀ (ys F : List Str) (x : Option D) (s1 : S), (∀ y ∈ ys, y ∈ ss.map (·.1)) → F.length + ys.length < 64 → (∀ p ∈ F, Asc p) → Grx f s s1 → s1[f]? = some (.lst (F.map .str)) →
    ∃ x' s2, Grx f s s2 ∧ forS ok (forB (clF Γ k) (.var 4) fitBody) (ys.map .str) [some (.ref n), some (.ref m), some (.ref q), some (.ref f), x] s1
      = (if fitL ts ks ss ys F = true then .nx [some (.ref n), some (.ref m), some (.ref q), some (.ref f), x'] s2 else .rt (.bl false) s2)
  | [], F, x, s1, _, _, _, g, hf => ⟨x, s1, g, by rw [List.map_nil, forS_nil (hok s1 g)]; rfl⟩
  | y :: ys, F, x, s1, hv, hlen, hF, g, hf => by
    obtain ⟨d, hd, hmem⟩ := getK_mem (hv y (by simp))
    obtain ⟨t, gg, c, w, rfl, t1, t2, t3⟩ := serv_shape (h.srv _ _ hd)
    rw [List.length_cons] at hlen
    have nn := g _ _ nf hn
    have mm := g _ _ mf hm
    have qq := g _ _ qf hq
    have ik := ix_dct qq (x := y) (by rw [getK_DK]; exact hd)
    obtain ⟨s2, g2, wh⟩ := l_whole b hk nn mm h.ky.kok ⟨t, gg, c, w, rfl, t1, t2⟩ h.kl
    have at_ : Asc t := wordB_asc (h.tb.at t1).1
    have gs2 : Grx f s s2 := fun j o hj e => g2 _ _ (g j o hj e)
    have hf2 := g2 _ _ hf
    have ik2 := ix_dct (g2 _ _ qq) (x := y) (by rw [getK_DK]; exact hd)
    have hcond : evT (clF Γ k) (.not (.call 198 (.cons (.var 0) (.cons (.var 1) (.cons (.ix (.var 2) (.var 4)) .nil))))) [some (.ref n), some (.ref m), some (.ref q), some (.ref f), some (.str y)] s1 = .ok (!wholeB ts ks (.tup [.str t, .tup gg, c])) s2 := by
      simp only [evT, ev, evs, plainT, asB, List.getElem?_cons_zero, List.getElem?_cons_succ, R.bind_ok, ik, wh, truD]
    rw [List.map_cons]
    have hcap : fitL ts ks ss (y :: ys) F = if wholeB ts ks (.tup [.str t, .tup gg, c]) = true then fitL ts ks ss ys F else if t ∈ F then false else fitL ts ks ss ys (F ++ [t]) := by simp only [fitL, hd, Option.getD_some, tabS]
    rw [hcap]
    cases hwh : wholeB ts ks (.tup [.str t, .tup gg, c]) with
    | true =>
      rw [hwh] at hcond
      obtain ⟨x', s3, a1, e⟩ := fit_loop b hk hok nf mf qf hn hm hq h ys F (some (.str y)) s2 (fun y' h => hv y' (by simp [h])) (by omega) hF gs2 hf2
      refine ⟨x', s3, a1, ?_⟩
      rw [if_pos rfl, ← e]
      refine forS_nx (hok s1 g) ?_
      rw [forB_var]
      exact (exs_skip hcond).trans rfl
    | false =>
      rw [hwh] at hcond
      rw [if_neg Bool.false_ne_true]
      have i0 : ixD (.tup [.str t, .tup gg, c]) (.int 0) s2 = .ok (.str t) s2 := rfl
      have ii := inn_strs hf2 at_ hF
      have hin : evT (clF Γ k) (.cmp .inn (.ix (.ix (.var 2) (.var 4)) (.cst (.int 0))) (.var 3)) [some (.ref n), some (.ref m), some (.ref q), some (.ref f), some (.str y)] s2 = .ok (decide (t ∈ F)) s2 := by
        simp only [evT, ev, evs, plainT, asB, List.getElem?_cons_zero, List.getElem?_cons_succ, R.bind_ok, ik2, Cst.d, i0, ii]
      by_cases hmem : t ∈ F
      · rw [if_pos hmem]
        rw [decide_eq_true hmem] at hin
        refine ⟨none, s2, gs2, ?_⟩
        refine forS_rt (hok s1 g) ?_
        rw [forB_var]
        exact exs_in hcond (exs_in hin rfl)
      · rw [if_neg hmem]
        rw [decide_eq_false hmem] at hin
        have ap := append_lst (d := .str t) hf2 (by rw [List.length_map]; omega)
        have hms : mSel .append (.ref f) s2 = some .lappend := by simp only [mSel, hf2]; rfl
        have lf := (List.getElem?_eq_some_iff.mp hf2).1
        obtain ⟨x', s3, a1, e⟩ := fit_loop b hk hok nf mf qf hn hm hq h ys (F ++ [t]) (some (.str y)) (s2.set f (.lst (F.map .str ++ [.str t]))) (fun y' h => hv y' (by simp [h])) (by simp; omega) (fun p hp => by
            rcases List.mem_append.mp hp with h | h
            · exact hF p h
            · simp at h; subst h; exact at_) (gs2.trans Grx.set) (by rw [set_get lf]; simp)
        refine ⟨x', s3, a1, ?_⟩
        rw [← e]
        refine forS_nx (hok s1 g) ?_
        rw [forB_var]
        refine exs_nx ((ite_t hcond).trans ((exs_skip hin).trans ((exs_expr (d := .non) (s' := s2.set f (.lst (F.map .str ++ [.str t]))) ?_).trans rfl)))
        simp only [evE, ev, evs, plainT, asB, List.set_cons_succ, List.set_cons_zero, List.getElem?_cons_zero, List.getElem?_cons_succ, R.bind_ok, hms, ik2, Cst.d, i0, ap]
theorem fits_ok (b : BE Γ) {k : Nat} (hk : 2 ≤ k) {n m q : Nat} (hn : s[n]? = some (.dct (DK ts))) (hm : s[m]? = some (.dct (DK ks))) (hq : s[q]? = some (.dct (DK ss))) (h : Pt3 ts ks ss) :
    ∃ s', Gp s s' ∧ (clF Γ k).call 163 [.ref n, .ref m, .ref q] s = .ok (.bl (fitL ts ks ss (ss.map (·.1)) [])) s' := by
  obtain ⟨j, rfl, hj⟩ := lv hk
  have g1 := Gp.new s (.lst [])
  have g2 := Gp.new (s ++ [.lst []]) (.lst ((ss.map (·.1)).map .str))
  have ll := list_dct (g1 _ _ hq)
  have lt : ∀ {x : Nat} {o : O}, s[x]? = some o → x ≠ s.length := fun h => by have := (List.getElem?_eq_some_iff.mp h).1; omega
  have hlf : (s ++ [O.lst []]).length ≠ s.length := by simp
  have G2 := g1.trans g2
  obtain ⟨x', s2, a1, lp⟩ := fit_loop b.toBW (k := j) (by omega) (s := (s ++ [.lst []]) ++ [.lst ((ss.map (·.1)).map .str)]) (f := s.length) (ok := (Src.lst (s ++ [O.lst []]).length ((ss.map (·.1)).map .str)).ok) (fun s' g => lstAt_of (g _ _ hlf new_at)) (lt hn) (lt hm) (lt hq) (G2 _ _ hn) (G2 _ _ hm) (G2 _ _ hq) h (ss.map (·.1)) [] none _ (fun _ h => h) (by have := h.s8; simp; omega) (by simp) (fun _ _ _ e => e) (g2 _ _ new_at)
  refine ⟨s2, fun jj o e => a1 _ _ (lt e) (G2 _ _ e), call_rt b.h163 (τ := [some (.ref n), some (.ref m), some (.ref q), none, none]) rfl rfl ?_⟩
  refine (exs_asg (d := .ref s.length) (s' := s ++ [.lst []]) rfl).trans ?_
  have fo := (ex_for (cl := clF Γ j) (τ := [some (.ref n), some (.ref m), some (.ref q), some (.ref s.length), none]) (s := s ++ [.lst []]) (t := .var 4) (k := .seq) (body := fitBody) (its := .cons (.blt .list (.cons (.var 2) .nil)) .nil) (ds := [.ref (s ++ [O.lst []]).length]) (s1 := (s ++ [.lst []]) ++ [.lst ((ss.map (·.1)).map .str)]) (src := .lst (s ++ [O.lst []]).length ((ss.map (·.1)).map .str)) (by
    simp only [evs, ev, plainT, List.getElem?_cons_zero, List.getElem?_cons_succ, R.bind_ok, ll]) (by simp only [srcOf, lstAt_of new_at])).trans lp
  cases hf : fitL ts ks ss (ss.map (·.1)) [] with
  | true =>
    rw [hf, if_pos rfl] at fo
    exact (exs_nx fo).trans rfl
  | false =>
    rw [hf, if_neg Bool.false_ne_true] at fo
    exact exs_rt fo
end
end SL

set_option Elab.async false
set_option linter.all false
set_option maxRecDepth 100000
set_option autoImplicit false
set_option maxHeartbeats 1000000
/-! SNc: one part changed. -/
namespace SL
open PySem L2 G
section
variable {ts ks ss : List (Str × D)} {x y : Str} {v d : D}
theorem getK_setK : getK (setK ts x v) y = if y = x then some v else getK ts y := by
  by_cases e : y = x
  · rw [if_pos e]
    have hm : y ∈ (setK ts x v).map (·.1) := by
      rw [setK_keys, e]
      split
      · assumption
      · simp
    obtain ⟨d, h1, h2⟩ := getK_mem hm
    rcases mem_setK h2 with ⟨_, h3⟩ | h3
    · exact absurd e h3
    · cases h3; exact h1
  · rw [if_neg e]
    unfold setK
    split
    · unfold getK
      induction ts with
      | nil => rfl
      | cons p r ih =>
        rename_i hany
        have key : ∀ (r : List (Str × D)), ((r.map fun p => if p.1 = x then (p.1, v) else p).find? fun p => decide (p.1 = y)).map (·.2) = (r.find? fun p => decide (p.1 = y)).map (·.2) := by
          intro r
          induction r with
          | nil => rfl
          | cons q r ih2 =>
            rw [List.map_cons, List.find?_cons, List.find?_cons]
            by_cases hq : q.1 = x
            · rw [if_pos hq]
              have : ¬ q.1 = y := fun z => e (z.symm.trans hq)
              simp only [decide_eq_false this]
              exact ih2
            · rw [if_neg hq]
              by_cases hy : q.1 = y
              · simp only [decide_eq_true hy]
              · simp only [decide_eq_false hy]; exact ih2
        exact key (p :: r)
    · unfold getK
      rw [List.find?_append]
      have : ¬ x = y := fun z => e z.symm
      simp [this]
theorem setK_len_mem (h : x ∈ ts.map (·.1)) : (setK ts x v).length = ts.length := by
  have := congrArg List.length (setK_keys (ts := ts) (x := x) (v := v))
  rw [if_pos h, List.length_map, List.length_map] at this
  exact this
theorem serv_mk {t : Str} {g : List D} {c : D} {w : Int} (h1 : wordB t = true) (h2 : getK ts t = some (.int w)) (h3 : colsB (-1) w g = true) (h4 : isCapD c = true) : isServD (DK ts) (.tup [.str t, .tup g, c]) = true := by
  simp only [isServD, getK_DK, h2, h1, isColsD, h3, h4, Bool.and_self]
theorem Pt3.wide (h : Pt3 ts ks ss) {w : Int} (e : getK ts x = some (.int w)) (hw : w < 4) : Pt3 (setK ts x (.int (w + 1))) ks ss := by
  have hx := mem_of_getK e
  obtain ⟨wx, w0, e0, b1, b2⟩ := h.tb.at e
  cases e0
  have tb : TbS 4 (setK ts x (.int (w + 1))) := ⟨setK_nodup h.tb.nd, fun p hp => by
    rcases mem_setK hp with hp | rfl
    · exact h.tb.all p hp.1
    · exact ⟨wx, w + 1, rfl, by omega, by omega⟩⟩
  -- widths only grow
  have grow : ∀ {y : Str} {u : Int}, getK ts y = some (.int u) → ∃ u', getK (setK ts x (.int (w + 1))) y = some (.int u') ∧ u ≤ u' := fun {y u} e2 => by
    rw [getK_setK]
    by_cases q : y = x
    · subst q
      rw [e] at e2
      cases e2
      exact ⟨w + 1, if_pos rfl, by omega⟩
    · exact ⟨u, (if_neg q).trans e2, Int.le_refl _⟩
  refine ⟨tb, ⟨h.ky.nd, fun p hp => ?_⟩, h.nd, fun p hp => ⟨(h.sv p hp).1, ?_⟩, by rw [setK_len_mem hx]; exact h.t1, by rw [setK_len_mem hx]; exact h.t5, h.k9, h.s1, h.s8⟩
  · obtain ⟨u, h1, h2⟩ := h.ky.all p hp
    obtain ⟨u', h3, h4⟩ := grow h1
    refine ⟨u', h3, ?_⟩
    cases hd : p.2 <;> rw [hd] at h2 <;> first
      | (cases h2; done)
      | (simp only [keyB, Bool.and_eq_true, decide_eq_true_eq] at h2 ⊢
         exact ⟨colsB_mono h4 h2.1, h2.2.1, by omega⟩)
  · obtain ⟨t, g, c, u, h1, h2, h3, h4⟩ := serv_shape (h.sv p hp).2
    obtain ⟨u', h5, h6⟩ := grow h2
    rw [h1]
    exact serv_mk (h.tb.at h2).1 h5 (colsB_mono h6 h3) h4
theorem Pt3.drop (h : Pt3 ts ks ss) : Pt3 ts (dropG ks x) ss := by
  have sub : (dropG ks x).Sublist ks := List.filter_sublist
  exact ⟨h.tb, ⟨(sub.map _).nodup h.ky.nd, fun p hp => h.ky.all p (sub.mem hp)⟩, h.nd, h.sv, h.t1, h.t5, Nat.le_trans sub.length_le h.k9, h.s1, h.s8⟩
theorem Pt3.key (h : Pt3 ts ks ss) {w : Int} (e : getK ts x = some (.int w)) (hw : 1 < w) (k9 : ks.length < 20) : Pt3 ts (setK ks x (.tup [.int (w - 1)])) ss := by
  refine ⟨h.tb, ⟨setK_nodup h.ky.nd, fun p hp => ?_⟩, h.nd, h.sv, h.t1, h.t5, by have := (setK_len (ts := ks) (x := x) (v := .tup [.int (w - 1)])).2.1; omega, h.s1, h.s8⟩
  rcases mem_setK hp with hp | rfl
  · exact h.ky.all p hp.1
  · refine ⟨w, e, ?_⟩
    simp only [keyB, colsB, Bool.and_true, Bool.and_eq_true, decide_eq_true_eq, List.length_cons, List.length_nil]
    omega
theorem Pt3.serv (h : Pt3 ts ks ss) (hx : x ∈ ss.map (·.1)) (hw : wordB x = true) (hd : isServD (DK ts) d = true) : Pt3 ts ks (setK ss x d) := by
  refine ⟨h.tb, h.ky, setK_nodup h.nd, fun p hp => ?_, h.t1, h.t5, h.k9, by rw [setK_len_mem hx]; exact h.s1, by rw [setK_len_mem hx]; exact h.s8⟩
  rcases mem_setK hp with hp | rfl
  · exact h.sv p hp.1
  · exact ⟨hw, hd⟩
theorem dropG_DK : dropG (DK ks) (.inr x) = DK (dropG ks x) := by
  unfold dropG DK
  rw [List.filter_map]
  congr 1
  apply List.filter_congr
  intro p _
  simp
end
def freeP (ts : List (Str × D)) : D → Bool
  | .str x => (match getK ts x with
    | some (.int w) => decide (w < 4)
    | _ => false)
  | _ => false
theorem num_is {cl : CL} {τ : Fr} {s : S} {j : Nat} {a c : Int} {r : Bool} (h : τ[j]? = some (some (.int a))) (e : (a == c) = r) : evT cl (.cmp .eq (.var j) (.cst (.int c))) τ s = .ok r s := by
  subst e
  simp only [evT, ev, plainT, asB, h, R.bind_ok, Cst.d, eqI]
theorem changed_ok {Γ : Ga} (b : BE Γ) {k : Nat} (hk : 4 ≤ k) {s : S} {n a c e : Nat} {ts ks ss : List (Str × D)} (p : PoolAt n s) (ha : s[a]? = some (.dct (DK ts))) (hc : s[c]? = some (.dct (DK ks))) (he : s[e]? = some (.dct (DK ss))) (ac : a ≠ c) (ae : a ≠ e) (ce : c ≠ e) (h : Pt3 ts ks ss) (k9 : ks.length < 20) :
    ∃ s' ts' ks' ss', (clF Γ k).call 133 [.ref n, .ref a, .ref c, .ref e] s = .ok .non s' ∧ Gd n [a, c, e] s s' ∧ s'[a]? = some (.dct (DK ts')) ∧ s'[c]? = some (.dct (DK ks')) ∧ s'[e]? = some (.dct (DK ss')) ∧ Pt3 ts' ks' ss' := by
  obtain ⟨j, rfl, hj⟩ := lv hk
  have an := p.ne_dct ha
  have cn := p.ne_dct hc
  have en := p.ne_dct he
  obtain ⟨r, s1, r1, r2, r3, r4⟩ := draw b.toBD (k := j) (by omega) (m := 3) p (by decide) (by decide)
  have a1 := r4.at an ha
  have c1 := r4.at cn hc
  have e1 := r4.at en he
  have t5 := h.t5
  have s8 := h.s8
  have st : ∀ {τ' s'}, exs (clF Γ j) (.cons (.ite (.cmp .eq (.var 4) (.cst (.int 0))) (.cons (.asg (.loc (.var 5)) (.lc (.var 6) (.var 6) .seq (.cons (.blt .list (.cons (.var 1) .nil)) .nil) (.cmp .lt (.ix (.var 1) (.var 6)) (.cst (.int 4))) [("_law_name", 6)]))
    (.cons (.ite (.cmp .ne (.var 5) (.lst .nil)) (.cons (.asg (.loc (.var 6)) (.call 247 (.cons (.var 0) (.cons (.var 5) .nil))))
    (.cons (.asg (.sub (.var 1) (.var 6)) (.bin .add (.ix (.var 1) (.var 6)) (.cst (.int 1)))) .nil)) (.nil)) .nil)) (.nil))
    (.cons (.ite (.cmp .eq (.var 4) (.cst (.int 1))) (.cons (.asg (.loc (.var 6)) (.call 247 (.cons (.var 0) (.cons (.blt .list (.cons (.var 1) .nil)) .nil))))
    (.cons (.ite (.cmp .inn (.var 6) (.var 2)) (.cons (.expr (.meth .pop (.var 2) (.cons (.var 6) .nil))) .nil) (.cons (.ite (.cmp .gt (.ix (.var 1) (.var 6)) (.cst (.int 1))) (.cons (.asg (.sub (.var 2) (.var 6)) (.tup (.cons (.bin .sub (.ix (.var 1) (.var 6)) (.cst (.int 1))) .nil))) .nil) (.nil)) .nil)) .nil)) (.nil))
    (.cons (.ite (.cmp .eq (.var 4) (.cst (.int 2))) (.cons (.asg (.loc (.var 6)) (.call 247 (.cons (.var 0) (.cons (.blt .list (.cons (.var 3) .nil)) .nil))))
    (.cons (.asg (.sub (.var 3) (.var 6)) (.tup (.cons (.ix (.ix (.var 3) (.var 6)) (.cst (.int 0))) (.cons (.ix (.ix (.var 3) (.var 6)) (.cst (.int 1))) (.cons (.cst .non) .nil))))) .nil)) (.nil)) .nil))) [some (.ref n), some (.ref a), some (.ref c), some (.ref e), some (.int r), none, none] s1 = .nx τ' s' → (clF Γ (j + 1)).call 133 [.ref n, .ref a, .ref c, .ref e] s = .ok .non s' := fun hx =>
    call_nx b.h133 (τ := [some (.ref n), some (.ref a), some (.ref c), some (.ref e), none, none, none]) rfl rfl ((exs_asg (d := .int r) (s' := s1) (by
      simp only [evE, ev, evs, plainT, List.getElem?_cons_zero, R.bind_ok, Cst.d, r1])).trans hx)
  have hr : r = 0 ∨ r = 1 ∨ r = 2 := by omega
  rcases hr with rfl | rfl | rfl
  · -- a width
    have g2 := Gd.new r4.pool (.lst ((ts.map (·.1)).map .str))
    have ll := list_dct a1
    have a2 := g2.at an a1
    have hlc : lcS (Src.lst s1.length ((ts.map (·.1)).map .str)).ok (lcB (clF Γ j) [some (.ref n), some (.ref a), some (.ref c), some (.ref e), some (.int 0), none, none] [6] (.var 6) (.cmp .lt (.ix (.var 1) (.var 6)) (.cst (.int 4))) (.var 6)) ((ts.map (·.1)).map .str) (s1 ++ [.lst ((ts.map (·.1)).map .str)]) = .ok (((ts.map (·.1)).map D.str).filter (freeP ts)) (s1 ++ [.lst ((ts.map (·.1)).map .str)]) := by
      refine lcS_keep (lstAt_of new_at) _ fun d hd => ?_
      obtain ⟨y, hy, rfl⟩ := List.mem_map.mp hd
      obtain ⟨d, hd2, _⟩ := getK_mem hy
      obtain ⟨_, w, rfl, _⟩ := h.tb.at hd2
      have ix := ix_dct a2 (x := y) (by rw [getK_DK]; exact hd2)
      have fp : freeP ts (.str y) = decide (w < 4) := by simp only [freeP, hd2]
      have ee : evT (clF Γ j) (.cmp .lt (.ix (.var 1) (.var 6)) (.cst (.int 4))) [some (.ref n), some (.ref a), some (.ref c), some (.ref e), some (.int 0), none, some (.str y)] (s1 ++ [.lst ((ts.map (·.1)).map .str)]) = .ok (decide (w < 4)) (s1 ++ [.lst ((ts.map (·.1)).map .str)]) := by
        simp only [evT, ev, plainT, asB, List.getElem?_cons_zero, List.getElem?_cons_succ, R.bind_ok, ix, Cst.d, cmpD, ltD]
      rw [fp]
      cases hq : decide (w < 4) with
      | true => rw [hq] at ee; exact lcB_if rfl ee rfl
      | false => rw [hq] at ee; exact lcB_no rfl ee
    have ff : ((ts.map (·.1)).map D.str).filter (freeP ts) = ((ts.map (·.1)).filter fun x => freeP ts (.str x)).map D.str := by rw [List.filter_map]; rfl
    rw [ff] at hlc
    obtain ⟨fr, hfr⟩ : ∃ fr, fr = (ts.map (·.1)).filter fun x => freeP ts (.str x) := ⟨_, rfl⟩
    rw [← hfr] at hlc
    have e5 : evE (clF Γ j) (.lc (.var 6) (.var 6) .seq (.cons (.blt .list (.cons (.var 1) .nil)) .nil) (.cmp .lt (.ix (.var 1) (.var 6)) (.cst (.int 4))) [("_law_name", 6)]) [some (.ref n), some (.ref a), some (.ref c), some (.ref e), some (.int 0), none, none] s1 = .ok (.ref (s1 ++ [O.lst ((ts.map (·.1)).map .str)]).length) ((s1 ++ [.lst ((ts.map (·.1)).map .str)]) ++ [.lst (fr.map .str)]) :=
      ev_lc (s1 := s1 ++ [.lst ((ts.map (·.1)).map .str)]) (ds := [.ref s1.length]) (src := .lst s1.length ((ts.map (·.1)).map .str)) (by
        simp only [evs, ev, plainT, List.getElem?_cons_zero, List.getElem?_cons_succ, R.bind_ok, ll]) (by simp only [srcOf, lstAt_of (new_at (s := s1))]) (by
        show ((ts.map (·.1)).map D.str).length < _
        rw [List.length_map, List.length_map, sizeLine_eq]; omega) hlc
    have g3 := Gd.new g2.pool (.lst (fr.map .str))
    have g4 := Gd.new g3.pool (.lst [])
    have frin : ∀ y ∈ fr, y ∈ ts.map (·.1) ∧ freeP ts (.str y) = true := fun y hy => by rw [hfr] at hy; exact List.mem_filter.mp hy
    have nil := eq_nil (s := ((s1 ++ [.lst ((ts.map (·.1)).map .str)]) ++ [.lst (fr.map .str)]) ++ [.lst []]) (m := (s1 ++ [O.lst ((ts.map (·.1)).map .str)]).length) (n := ((s1 ++ [O.lst ((ts.map (·.1)).map .str)]) ++ [O.lst (fr.map .str)]).length) (ds := fr.map .str) (fun d hd => by
      obtain ⟨y, hy, rfl⟩ := List.mem_map.mp hd
      obtain ⟨p2, hp2, rfl⟩ := List.mem_map.mp (frin y hy).1
      exact h.aT p2 hp2) (g4.at (g2.pool.ne (Nat.le_refl _)) new_at) new_at
    have c5 : evT (clF Γ j) (.cmp .ne (.var 5) (.lst .nil)) [some (.ref n), some (.ref a), some (.ref c), some (.ref e), some (.int 0), some (.ref (s1 ++ [O.lst ((ts.map (·.1)).map .str)]).length), none] ((s1 ++ [.lst ((ts.map (·.1)).map .str)]) ++ [.lst (fr.map .str)]) = .ok (!(fr.map D.str).isEmpty) (((s1 ++ [.lst ((ts.map (·.1)).map .str)]) ++ [.lst (fr.map .str)]) ++ [.lst []]) := by
      simp only [evT, ev, evs, plainT, asB, List.getElem?_cons_zero, List.getElem?_cons_succ, R.bind_ok, new, cmpD, nil]
    have G4 := ((r4.trans g2).trans g3).trans g4
    cases hemp : (fr.map D.str).isEmpty with
    | true =>
      rw [hemp] at c5
      refine ⟨_, ts, ks, ss, st ((exs_nx ((ite_t (num_is rfl (by decide))).trans ((exs_asg e5).trans ((exs_skip c5).trans rfl)))).trans ((exs_skip (num_is rfl (by decide))).trans ((exs_skip (num_is rfl (by decide))).trans rfl))), G4.wide, G4.at an ha, G4.at cn hc, G4.at en he, h⟩
    | false =>
      rw [hemp] at c5
      obtain ⟨d, s6, p1, p2, p3⟩ := draw_pick b.toBD2 (k := j) (by omega) g4.pool (l := (s1 ++ [O.lst ((ts.map (·.1)).map .str)]).length) (g4.at (g2.pool.ne (Nat.le_refl _)) new_at) (g2.pool.ne (Nat.le_refl _)) (by
        cases hq : fr.map D.str with
        | nil => rw [hq] at hemp; cases hemp
        | cons _ _ => simp) (by
        rw [List.length_map, hfr]
        have := List.length_filter_le (fun x => freeP ts (.str x)) (ts.map (·.1))
        rw [List.length_map] at this
        omega)
      obtain ⟨y, hy, rfl⟩ := List.mem_map.mp p2
      obtain ⟨hy1, hy2⟩ := frin y hy
      obtain ⟨d, hd2, _⟩ := getK_mem hy1
      obtain ⟨_, w, rfl, _⟩ := h.tb.at hd2
      have hw : w < 4 := by simpa [freeP, hd2] using hy2
      have G6 := G4.trans p3
      have a6 := G6.at an ha
      have ix := ix_dct a6 (x := y) (by rw [getK_DK]; exact hd2)
      have pl := put_dct (x := y) (v := .int (w + 1)) a6 (by omega)
      have lt6 := (List.getElem?_eq_some_iff.mp a6).1
      refine ⟨_, setK ts y (.int (w + 1)), ks, ss, st ((exs_nx ((ite_t (num_is rfl (by decide))).trans ((exs_asg e5).trans ((exs_nx ((ite_t c5).trans ((exs_asg (d := .str y) (s' := s6) ?_).trans ((exs_sub (d := .int (w + 1)) (x := .ref a) (y := .str y) (s1 := s6) (s2 := s6) (s3 := s6) ?_ rfl rfl pl).trans rfl)))).trans rfl)))).trans ((exs_skip (num_is rfl (by decide))).trans ((exs_skip (num_is rfl (by decide))).trans rfl))), G6.wide.trans (Gd.set G6.pool an (by simp)), set_get lt6, by rw [List.getElem?_set_ne ac]; exact G6.at cn hc, by rw [List.getElem?_set_ne ae]; exact G6.at en he, h.wide hd2 hw⟩
      · simp only [evE, ev, evs, plainT, List.set_cons_succ, List.set_cons_zero, List.getElem?_cons_zero, List.getElem?_cons_succ, R.bind_ok, p1]
      · simp only [evE, ev, evs, plainT, List.set_cons_succ, List.set_cons_zero, List.getElem?_cons_zero, List.getElem?_cons_succ, R.bind_ok, ix, Cst.d, addI]
  · -- a key
    obtain ⟨y, s2, e2, hy, g2⟩ := pick_name b.toBD2 (k := j) (by omega) (τ := [some (.ref n), some (.ref a), some (.ref c), some (.ref e), some (.int 1), none, none]) (i := 1) r4.pool rfl rfl a1 h.t1 (by omega)
    obtain ⟨d, hd2, _⟩ := getK_mem hy
    obtain ⟨_, w, rfl, _⟩ := h.tb.at hd2
    have G2 := r4.trans g2
    have a2 := G2.at an ha
    have c2 := G2.at cn hc
    have ii := inn_dct c2 (x := y)
    rw [getK_DK] at ii
    have cin : evT (clF Γ j) (.cmp .inn (.var 6) (.var 2)) [some (.ref n), some (.ref a), some (.ref c), some (.ref e), some (.int 1), none, some (.str y)] s2 = .ok (getK ks y).isSome s2 := by
      simp only [evT, ev, plainT, asB, List.getElem?_cons_zero, List.getElem?_cons_succ, R.bind_ok, ii]
    cases hk : getK ks y with
    | some dk =>
      rw [hk] at cin
      have hms : mSel .pop (.ref c) s2 = some .dpop := by simp only [mSel, c2]; rfl
      have hg : getK (DK ks) (.inr y) = some dk := by rw [getK_DK]; exact hk
      have hp : mtD .dpop (.ref c) [.str y] s2 = .ok dk (s2.set c (.dct (DK (dropG ks y)))) := by
        simp only [mtD, c2, keyD, hg, dropG_DK]
      have lt2 := (List.getElem?_eq_some_iff.mp c2).1
      refine ⟨_, ts, dropG ks y, ss, st ((exs_skip (num_is rfl (by decide))).trans ((exs_nx ((ite_t (num_is rfl (by decide))).trans ((exs_asg e2).trans ((exs_nx ((ite_t cin).trans ((exs_expr (d := dk) (s' := s2.set c (.dct (DK (dropG ks y)))) ?_).trans rfl))).trans rfl)))).trans ((exs_skip (num_is rfl (by decide))).trans rfl))), G2.wide.trans (Gd.set G2.pool cn (by simp)), by rw [List.getElem?_set_ne (Ne.symm ac)]; exact a2, set_get lt2, by rw [List.getElem?_set_ne ce]; exact G2.at en he, h.drop⟩
      simp only [evE, ev, evs, plainT, List.getElem?_cons_zero, List.getElem?_cons_succ, R.bind_ok, hms, hp]
    | none =>
      rw [hk] at cin
      have ix := ix_dct a2 (x := y) (by rw [getK_DK]; exact hd2)
      have cg : evT (clF Γ j) (.cmp .gt (.ix (.var 1) (.var 6)) (.cst (.int 1))) [some (.ref n), some (.ref a), some (.ref c), some (.ref e), some (.int 1), none, some (.str y)] s2 = .ok (decide (1 < w)) s2 := by
        simp only [evT, ev, plainT, asB, List.getElem?_cons_zero, List.getElem?_cons_succ, R.bind_ok, ix, Cst.d, cmpD]
      by_cases hw : 1 < w
      · rw [decide_eq_true hw] at cg
        have pl := put_dct (x := y) (v := .tup [.int (w - 1)]) c2 (by omega)
        have lt2 := (List.getElem?_eq_some_iff.mp c2).1
        refine ⟨_, ts, setK ks y (.tup [.int (w - 1)]), ss, st ((exs_skip (num_is rfl (by decide))).trans ((exs_nx ((ite_t (num_is rfl (by decide))).trans ((exs_asg e2).trans ((exs_nx ((ite_f cin).trans ((exs_nx ((ite_t cg).trans ((exs_sub (d := .tup [.int (w - 1)]) (x := .ref c) (y := .str y) (s1 := s2) (s2 := s2) (s3 := s2) ?_ rfl rfl pl).trans rfl))).trans rfl))).trans rfl)))).trans ((exs_skip (num_is rfl (by decide))).trans rfl))), G2.wide.trans (Gd.set G2.pool cn (by simp)), by rw [List.getElem?_set_ne (Ne.symm ac)]; exact a2, set_get lt2, by rw [List.getElem?_set_ne ce]; exact G2.at en he, h.key hd2 hw k9⟩
        simp only [evE, ev, evs, plainT, List.set_cons_succ, List.set_cons_zero, List.getElem?_cons_zero, List.getElem?_cons_succ, R.bind_ok, ix, Cst.d, subI]
      · rw [decide_eq_false hw] at cg
        exact ⟨_, ts, ks, ss, st ((exs_skip (num_is rfl (by decide))).trans ((exs_nx ((ite_t (num_is rfl (by decide))).trans ((exs_asg e2).trans ((exs_nx ((ite_f cin).trans ((exs_skip cg).trans rfl))).trans rfl)))).trans ((exs_skip (num_is rfl (by decide))).trans rfl))), G2.wide, a2, c2, G2.at en he, h⟩
  · -- a cap
    obtain ⟨y, s2, e2, hy, g2⟩ := pick_name b.toBD2 (k := j) (by omega) (τ := [some (.ref n), some (.ref a), some (.ref c), some (.ref e), some (.int 2), none, none]) (i := 3) r4.pool rfl rfl e1 h.s1 (by omega)
    obtain ⟨d, hd2, hmem⟩ := getK_mem hy
    obtain ⟨t, g, cp, w, rfl, t1, t2, t3⟩ := serv_shape (h.srv _ _ hd2)
    have G2 := r4.trans g2
    have e3 := G2.at en he
    have ix := ix_dct e3 (x := y) (by rw [getK_DK]; exact hd2)
    have pl := put_dct (x := y) (v := .tup [.str t, .tup g, .non]) e3 (by omega)
    have lt2 := (List.getElem?_eq_some_iff.mp e3).1
    have i0 : ixD (.tup [.str t, .tup g, cp]) (.int 0) s2 = .ok (.str t) s2 := rfl
    have i1 : ixD (.tup [.str t, .tup g, cp]) (.int 1) s2 = .ok (.tup g) s2 := rfl
    refine ⟨_, ts, ks, setK ss y (.tup [.str t, .tup g, .non]), st ((exs_skip (num_is rfl (by decide))).trans ((exs_skip (num_is rfl (by decide))).trans ((exs_nx ((ite_t (num_is rfl (by decide))).trans ((exs_asg e2).trans ((exs_sub (d := .tup [.str t, .tup g, .non]) (x := .ref e) (y := .str y) (s1 := s2) (s2 := s2) (s3 := s2) ?_ rfl rfl pl).trans rfl)))).trans rfl))), G2.wide.trans (Gd.set G2.pool en (by simp)), by rw [List.getElem?_set_ne (Ne.symm ae)]; exact G2.at an ha, by rw [List.getElem?_set_ne (Ne.symm ce)]; exact G2.at cn hc, set_get lt2, h.serv hy (h.sv _ hmem).1 (serv_mk (h.tb.at t1).1 t1 t2 rfl)⟩
    simp only [evE, ev, evs, plainT, List.set_cons_succ, List.set_cons_zero, List.getElem?_cons_zero, List.getElem?_cons_succ, R.bind_ok, ix, Cst.d, i0, i1]
end SL

set_option Elab.async false
set_option linter.all false
set_option maxRecDepth 100000
set_option autoImplicit false
set_option maxHeartbeats 1000000
/-! SNd: schemas compared, and without some caps. -/
namespace SL
open PySem L2 G
section
variable {ts ks ss ts2 ks2 ss2 : List (Str × D)} {x : Str}
theorem mem_srt {p : Str × D} (h : p ∈ srt ts) : p ∈ ts := by
  obtain ⟨y, hy, rfl⟩ := List.mem_map.mp h
  obtain ⟨d, h1, h2⟩ := getK_mem (mem_sortT.mp hy)
  rw [h1]; exact h2
theorem srt_len : (srt ts).length = ts.length := by unfold srt; rw [List.length_map, sortT_len, List.length_map]
theorem wholeB_srt (d : D) : wholeB (srt ts) (srt ks) d = wholeB ts ks d := by
  unfold wholeB
  split
  · simp only [getK_srt]
  · rfl
/-- a service without its cap -/
def uncD : D → D
  | .tup [t, g, _] => .tup [t, g, .non]
  | d => d
def uncL (ss : List (Str × D)) (xs : List Str) : List (Str × D) := (srt ss).map fun p => (p.1, if p.1 ∈ xs then uncD p.2 else p.2)
theorem uncL_keys {xs : List Str} : (uncL ss xs).map (·.1) = sortT (ss.map (·.1)) := by
  unfold uncL
  rw [List.map_map, ← srt_names]
  rfl
theorem uncL_len {xs : List Str} : (uncL ss xs).length = ss.length := by unfold uncL; rw [List.length_map, srt_len]
theorem Pt3.unc (h : Pt3 ts ks ss) (xs : List Str) : Pt3 (srt ts) (srt ks) (uncL ss xs) := by
  refine ⟨⟨srt_nd h.tb.nd, fun p hp => h.tb.all p (mem_srt hp)⟩, ⟨srt_nd h.ky.nd, fun p hp => ?_⟩, by rw [uncL_keys]; exact sortT_nodup h.nd, fun p hp => ?_, by rw [srt_len]; exact h.t1, by rw [srt_len]; exact h.t5, by rw [srt_len]; exact h.k9, by rw [uncL_len]; exact h.s1, by rw [uncL_len]; exact h.s8⟩
  · obtain ⟨w, h1, h2⟩ := h.ky.all p (mem_srt hp)
    exact ⟨w, by rw [getK_srt]; exact h1, h2⟩
  · obtain ⟨q, hq, rfl⟩ := List.mem_map.mp hp
    obtain ⟨h1, h2⟩ := h.sv q (mem_srt hq)
    obtain ⟨t, g, c, w, e, t1, t2, t3⟩ := serv_shape h2
    have hw := (h.tb.at t1).1
    have t1' : getK (srt ts) t = some (.int w) := by rw [getK_srt]; exact t1
    refine ⟨h1, ?_⟩
    show isServD (DK (srt ts)) (if q.1 ∈ xs then uncD q.2 else q.2) = true
    rw [e]
    split
    · exact serv_mk hw t1' t2 rfl
    · exact serv_mk hw t1' t2 t3
theorem unc_whole (h : Pt3 ts ks ss) {xs : List Str} {q : Str × D} (hq : q ∈ srt ss) (hw : wholeB (srt ts) (srt ks) (if q.1 ∈ xs then uncD q.2 else q.2) = false) : q.1 ∉ xs ∧ wholeB ts ks q.2 = false := by
  obtain ⟨t, g, c, w, e, t1, t2, t3⟩ := serv_shape (h.sv q (mem_srt hq)).2
  by_cases hx : q.1 ∈ xs
  · rw [if_pos hx, e] at hw
    simp [uncD, wholeB, D.isNon] at hw
  · rw [if_neg hx, wholeB_srt] at hw
    exact ⟨hx, hw⟩
theorem One.unc (h : Pt3 ts ks ss) (o : One ts ks ss) (xs : List Str) : One (srt ts) (srt ks) (uncL ss xs) := fun p hp q hq ne hp2 hq2 => by
  obtain ⟨p0, hp0, rfl⟩ := List.mem_map.mp hp
  obtain ⟨q0, hq0, rfl⟩ := List.mem_map.mp hq
  obtain ⟨a1, a2⟩ := unc_whole h hp0 hp2
  obtain ⟨b1, b2⟩ := unc_whole h hq0 hq2
  show tabS (if p0.1 ∈ xs then uncD p0.2 else p0.2) ≠ tabS (if q0.1 ∈ xs then uncD q0.2 else q0.2)
  rw [if_neg a1, if_neg b1]
  exact o p0 (mem_srt hp0) q0 (mem_srt hq0) ne a2 b2
end
section
variable {Γ : Ga} {s : S} {b0 b1 i j l : Nat} {ts ks ss ts2 ks2 ss2 : List (Str × D)}
def sameB (ts ks ss ts2 ks2 ss2 : List (Str × D)) : Bool := eqB ts ts2 && (eqB ks ks2 && eqB ss ss2)
theorem eq_fields {a b : List (Str × D)} {m n : Nat} (h1 : s[m]? = some (.dct (DK (srt a)))) (h2 : s[n]? = some (.dct (DK (srt b)))) (na : (a.map (·.1)).Nodup) (nb : (b.map (·.1)).Nodup) (ha : DatA a) (hb : DatA b) : eqD (.ref m) (.ref n) s = .ok (eqB a b) s := by
  rw [dic_eq h1 h2 (srt_nd na) ha.srt hb.srt, eqB_congr (srt_nd na) (srt_nd nb) na nb (fun _ => getK_srt) fun _ => getK_srt]
theorem sch_eq (b : BE Γ) {k : Nat} (hk : 1 ≤ k) (h1 : Sch s b0 i ts ks ss) (h2 : Sch s b1 j ts2 ks2 ss2) (p1 : Pt3 ts ks ss) (p2 : Pt3 ts2 ks2 ss2) : (clF Γ k).call 75 [.ref i, .ref j] s = .ok (.bl (sameB ts ks ss ts2 ks2 ss2)) s := by
  obtain ⟨k', rfl, _⟩ := lv hk
  obtain ⟨W, C, ⟨f1, f2, f3, f4, f5, _, e0, e1, e2, e3, _⟩, _⟩ := h1.ini
  obtain ⟨W', C', ⟨g1, g2, g3, g4, g5, _, d0, d1, d2, d3, _⟩, _⟩ := h2.ini
  obtain ⟨a1, a2, a3⟩ := p1.dat
  obtain ⟨c1, c2, c3⟩ := p2.dat
  obtain ⟨kk, hc, _⟩ := b.hm2
  have hc : (clF Γ k').cls "Schema" = some kk := hc
  have w1 := own_fld b.toBP (k := k') e0 (f := "width_table") (by simp) (d := .ref f1) rfl
  have w2 := own_fld b.toBP (k := k') d0 (f := "width_table") (by simp) (d := .ref g1) rfl
  have k1 := own_fld b.toBP (k := k') e0 (f := "key_table") (by simp) (d := .ref f2) rfl
  have k2 := own_fld b.toBP (k := k') d0 (f := "key_table") (by simp) (d := .ref g2) rfl
  have s1 := own_fld b.toBP (k := k') e0 (f := "service_table") (by simp) (d := .ref f3) rfl
  have s2 := own_fld b.toBP (k := k') d0 (f := "service_table") (by simp) (d := .ref g3) rfl
  have q1 := eq_fields e1 d1 p1.tb.nd p2.tb.nd a1 c1
  have q2 := eq_fields e2 d2 p1.ky.nd p2.ky.nd a2 c2
  have q3 := eq_fields e3 d3 p1.nd p2.nd a3 c3
  refine call_rt b.h75 (τ := [some (.ref i), some (.ref j)]) rfl rfl ?_
  refine (exs_skip (s' := s) ?_).trans ?_
  · simp only [evT, ev, plainT, List.getElem?_cons_zero, List.getElem?_cons_succ, R.bind_ok, hc, Option.isSome_some, if_true, iscD, d0, and_self, decide_true, truD, Bool.not_true]
  have c4 : evT (clF Γ k') (.or (.cmp .ne (.fld (.var 0) "width_table") (.fld (.var 1) "width_table")) (.cmp .ne (.fld (.var 0) "key_table") (.fld (.var 1) "key_table"))) [some (.ref i), some (.ref j)] s = .ok (!(eqB ts ts2 && eqB ks ks2)) s := by
    simp only [evT, ev, plainT, asB, List.getElem?_cons_zero, List.getElem?_cons_succ, R.bind_ok, w1, w2, cmpD, q1]
    cases eqB ts ts2 with
    | false => rfl
    | true => simp only [Bool.not_true, Bool.false_eq_true, if_false, k1, k2, R.bind_ok, q2, Bool.true_and]
  unfold sameB
  cases hq : eqB ts ts2 && eqB ks ks2 with
  | false =>
    rw [hq] at c4
    have : (eqB ts ts2 && (eqB ks ks2 && eqB ss ss2)) = false := by rw [← Bool.and_assoc, hq, Bool.false_and]
    rw [this]
    exact exs_in c4 rfl
  | true =>
    rw [hq] at c4
    have : (eqB ts ts2 && (eqB ks ks2 && eqB ss ss2)) = eqB ss ss2 := by rw [← Bool.and_assoc, hq, Bool.true_and]
    rw [this]
    refine (exs_skip c4).trans (exs_ret ?_)
    simp only [evE, ev, plainT, asB, List.getElem?_cons_zero, List.getElem?_cons_succ, R.bind_ok, s1, s2, cmpD, q3]
theorem oeq_ok (b : BE Γ) {k : Nat} (hk : 1 ≤ k) (h1 : Sch s b0 i ts ks ss) (h2 : Sch s b1 j ts2 ks2 ss2) (p1 : Pt3 ts ks ss) (p2 : Pt3 ts2 ks2 ss2) : oeqD (clF Γ k) (.ref i) (.ref j) s = .ok (sameB ts ks ss ts2 ks2 ss2) s := by
  have e := sch_eq b hk h1 h2 p1 p2
  obtain ⟨W, C, ⟨f1, f2, f3, f4, f5, _, e0, _⟩, _⟩ := h1.ini
  obtain ⟨W', C', ⟨g1, g2, g3, g4, g5, _, d0, _⟩, _⟩ := h2.ini
  obtain ⟨kk, hc, _, _, hm⟩ := b.hm2
  have hc : (clF Γ k).cls "Schema" = some kk := hc
  simp only [oeqD, ins_at e0, ins_at d0, if_true, hc, Option.bind_some, hm, e, R.calm_ok, R.bind_ok]
/-! ### uncapped -/
def unkF (ss : List (Str × D)) (xs : List Str) : Option Str := xs.find? fun x => !(getK ss x).isSome
def ckBody : Cms := .cons (.ite (.cmp .nin (.var 2) (.fld (.var 0) "service_table")) (.cons (.rse "UnknownName" (.cons (.var 2) .nil)) .nil) (.nil)) .nil
theorem ck_loop (b : BE Γ) {k : Nat} {ok : S → Prop} (hok : ok s) {n : Nat} {fs : List (Str × D)} (hi : s[i]? = some (.ins "Schema" fs)) (hd : fs.lookup ("service_table" : Str) = some (.ref n)) (hn : s[n]? = some (.dct (DK (srt ss)))) {z : D} :
    ∀ (xs : List Str) (x2 : Option D), ∃ x2', forS ok (forB (clF Γ k) (.var 2) ckBody) (xs.map .str) [some (.ref i), some z, x2, none, none] s
      = (match unkF ss xs with | none => .nx [some (.ref i), some z, x2', none, none] s | some x => .exc [some (.ref i), some z, x2', none, none] "UnknownName" (unk x) s)
  | [], x2 => ⟨x2, by rw [List.map_nil, forS_nil hok]; rfl⟩
  | x :: xs, x2 => by
    have fl := own_fld b.toBP (k := k) hi (f := "service_table") (by simp) hd
    have nn := nin_dct (x := x) hn
    rw [getK_DK, getK_srt] at nn
    have c : evT (clF Γ k) (.cmp .nin (.var 2) (.fld (.var 0) "service_table")) [some (.ref i), some z, some (.str x), none, none] s = .ok (!(getK ss x).isSome) s := by
      simp only [evT, ev, plainT, asB, List.getElem?_cons_zero, List.getElem?_cons_succ, R.bind_ok, fl, nn]
    rw [List.map_cons]
    unfold unkF
    rw [List.find?_cons]
    cases hg : (getK ss x).isSome with
    | true =>
      rw [hg] at c
      obtain ⟨x2', e⟩ := ck_loop b hok hi hd hn xs (some (.str x))
      refine ⟨x2', ?_⟩
      refine (forS_nx hok ?_).trans e
      rw [forB_var]
      exact (exs_skip c).trans rfl
    | false =>
      rw [hg] at c
      refine ⟨some (.str x), forS_exc hok ?_⟩
      rw [forB_var]
      show exs _ ckBody [some (.ref i), some z, some (.str x), none, none] s = _
      unfold ckBody
      rw [exs, ite_t c, rse_un b.toBC (d := .str x) rfl]
      rfl
def itBody : Cms := .cons (.asg (.sub (.var 3) (.var 2)) (.ife (.cmp .inn (.var 2) (.var 1)) (.tup (.cons (.ix (.var 4) (.cst (.int 0))) (.cons (.ix (.var 4) (.cst (.int 1))) (.cons (.cst .non) .nil)))) (.var 4))) .nil
theorem uncapped_ok (b : BE Γ) {k : Nat} (hk : 6 ≤ k) (h : Sch s b0 i ts ks ss) (p : Pt3 ts ks ss) (o : One ts ks ss) {xs : List Str} (hl : s[l]? = some (.lst (xs.map .str))) (hx : ∀ x ∈ xs, Asc x) :
    ∃ s', Gp s s' ∧ (match unkF ss xs with
      | some x => (clF Γ k).call 86 [.ref i, .ref l] s = .exc "UnknownName" (unk x) s'
      | none => ∃ j b1, (clF Γ k).call 86 [.ref i, .ref l] s = .ok (.ref j) s' ∧ Sch s' b1 j (srt ts) (srt ks) (uncL ss xs)) := by
  obtain ⟨k', rfl, hk'⟩ := lv hk
  obtain ⟨W, C, ⟨f1, f2, f3, f4, f5, _, e0, e1, e2, e3, _⟩, _⟩ := h.ini
  obtain ⟨x2', lp⟩ := ck_loop b (k := k') (ok := (Src.lst l (xs.map .str)).ok) (lstAt_of hl) e0 (ss := ss) (n := f3) rfl e3 (z := .ref l) xs none
  have fo := (ex_for (cl := clF Γ k') (τ := [some (.ref i), some (.ref l), none, none, none]) (s := s) (t := .var 2) (k := .seq) (body := ckBody) (its := .cons (.var 1) .nil) (ds := [.ref l]) (s1 := s) (src := .lst l (xs.map .str)) rfl (by simp only [srcOf, lstAt_of hl])).trans lp
  cases hu : unkF ss xs with
  | some x =>
    rw [hu] at fo
    exact ⟨s, Gp.refl s, call_ex b.h86 rfl rfl (exs_exc fo)⟩
  | none =>
    rw [hu] at fo
    have s8 := p.s8
    have lt3 := (List.getElem?_eq_some_iff.mp e3).1
    have lti := (List.getElem?_eq_some_iff.mp e0).1
    have ltl := (List.getElem?_eq_some_iff.mp hl).1
    have n3i : f3 ≠ i := fun z => by rw [z, e0] at e3; cases e3
    have n3l : f3 ≠ l := fun z => by rw [z, hl] at e3; cases e3
    have g1 := Gp.new s (.dct (DK []))
    -- while it is walked
    obtain ⟨s2, hs2⟩ : ∃ s2 : S, s2 = (s ++ [O.dct (DK [])]).set f3 (.frd (DK (srt ss))) := ⟨_, rfl⟩
    have lt2 : s.length < s2.length := by rw [hs2, List.length_set]; simp
    have q0 : s2[i]? = some (.ins "Schema" [("width_table", .ref f1), ("key_table", .ref f2), ("service_table", .ref f3), ("whole_table", .ref f4), ("capped_table", .ref f5)]) := by rw [hs2, List.getElem?_set_ne n3i]; exact g1 _ _ e0
    have q3 : s2[f3]? = some (.frd (DK (srt ss))) := by rw [hs2]; exact set_get (List.getElem?_eq_some_iff.mp (g1 _ _ e3)).1
    have ql : s2[l]? = some (.lst (xs.map .str)) := by rw [hs2, List.getElem?_set_ne n3l]; exact g1 _ _ hl
    have qa : s2[s.length]? = some (.dct (DK [])) := by rw [hs2, List.getElem?_set_ne (by omega)]; exact new_at
    have fl2 := own_fld b.toBP (k := k') q0 (f := "service_table") (by simp) (d := .ref f3) rfl
    obtain ⟨τ', s', lp2, ⟨y2, y4, rfl⟩, rfl⟩ := forS_inv (ok := (Src.dki f3 (DK (srt ss))).ok) (g := forB (clF Γ k') (.tup [2, 4]) itBody) (items := (Src.dki f3 (DK (srt ss))).items) (τ := [some (.ref i), some (.ref l), x2', some (.ref s.length), none]) (s := s2)
      (fun idx τ s' => (∃ y2 y4, τ = [some (.ref i), some (.ref l), y2, some (.ref s.length), y4]) ∧ s' = s2.set s.length (.dct (DK ((uncL ss xs).take idx)))) (fun idx τ s' ⟨_, e⟩ => by
        rw [e]
        show (s2.set _ _)[f3]? = _
        rw [List.getElem?_set_ne (by omega)]; exact q3) (fun idx d τ s' hi ⟨⟨y2, y4, hτ⟩, hs'⟩ => by
        subst hτ hs'
        simp only [Src.items, DK, List.map_map, List.getElem?_map, Option.map_eq_some_iff] at hi
        obtain ⟨q, hq, rfl⟩ := hi
        have hil := (List.getElem?_eq_some_iff.mp hq).1
        have hmem := List.mem_of_getElem? hq
        obtain ⟨w1, w2⟩ := p.sv q (mem_srt hmem)
        obtain ⟨t, g, c, w, ed, t1, t2, t3⟩ := serv_shape w2
        have hun : (uncL ss xs)[idx]? = some (q.1, if q.1 ∈ xs then uncD q.2 else q.2) := by
          unfold uncL; rw [List.getElem?_map, hq]; rfl
        have tk : (uncL ss xs).take (idx + 1) = (uncL ss xs).take idx ++ [(q.1, if q.1 ∈ xs then uncD q.2 else q.2)] := by rw [List.take_add_one, hun]; rfl
        have hnot : q.1 ∉ ((uncL ss xs).take idx).map (·.1) := fun z => by
          have nd : ((uncL ss xs).map (·.1)).Nodup := by rw [uncL_keys]; exact sortT_nodup p.nd
          rw [← List.take_append_drop (idx + 1) (uncL ss xs), tk, List.map_append, List.map_append] at nd
          have := (List.nodup_append.mp (List.nodup_append.mp nd).1).2.2
          exact this q.1 z q.1 (by simp) rfl
        obtain ⟨s4, hs4⟩ : ∃ s4 : S, s4 = s2.set s.length (.dct (DK ((uncL ss xs).take idx))) := ⟨_, rfl⟩
        have r4 : s4[s.length]? = some (.dct (DK ((uncL ss xs).take idx))) := by rw [hs4]; exact set_get lt2
        have l4 : s4[l]? = some (.lst (xs.map .str)) := by rw [hs4, List.getElem?_set_ne (by omega)]; exact ql
        have st := set_dct (x := q.1) (d := if q.1 ∈ xs then uncD q.2 else q.2) r4 (by rw [List.length_take, uncL_len]; omega) hnot
        rw [← tk] at st
        have ii := inn_strs l4 (wordB_asc w1) hx
        rw [← hs4]
        refine ⟨[some (.ref i), some (.ref l), some (.str q.1), some (.ref s.length), some q.2], s2.set s.length (.dct (DK ((uncL ss xs).take (idx + 1)))), ?_, ⟨_, _, rfl⟩, rfl⟩
        show exs (clF Γ k') itBody [some (.ref i), some (.ref l), some (.str q.1), some (.ref s.length), some q.2] s4 = _
        refine (exs_sub (d := if q.1 ∈ xs then uncD q.2 else q.2) (x := .ref s.length) (y := .str q.1) (s1 := s4) (s2 := s4) (s3 := s4) (s4 := s2.set s.length (.dct (DK ((uncL ss xs).take (idx + 1))))) ?_ rfl rfl (st.trans (by rw [hs4, List.set_set]))).trans rfl
        have i0 : ixD q.2 (.int 0) s4 = .ok (.str t) s4 := by rw [ed]; rfl
        have i1 : ixD q.2 (.int 1) s4 = .ok (.tup g) s4 := by rw [ed]; rfl
        simp only [evE, ev, evs, plainT, asB, List.getElem?_cons_zero, List.getElem?_cons_succ, R.bind_ok, ii, Cst.d]
        by_cases hm : q.1 ∈ xs
        · rw [decide_eq_true hm, if_pos rfl, if_pos hm]
          simp only [i0, i1, R.bind_ok]
          rw [ed]; rfl
        · rw [decide_eq_false hm, if_neg Bool.false_ne_true, if_neg hm]) ⟨⟨x2', none, rfl⟩, by
          apply List.ext_getElem?
          intro jj
          by_cases e : s.length = jj
          · subst e; rw [set_get lt2, qa]; rfl
          · rw [List.getElem?_set_ne e]⟩
    have full : (uncL ss xs).take (Src.dki f3 (DK (srt ss))).items.length = uncL ss xs := by
      simp only [Src.items, DK, List.length_map]
      rw [srt_len, ← uncL_len (ss := ss) (xs := xs)]
      exact List.take_length
    rw [full] at lp2
    -- and then
    obtain ⟨s5, hs5⟩ : ∃ s5 : S, s5 = (s ++ [O.dct (DK [])]).set s.length (.dct (DK (uncL ss xs))) := ⟨_, rfl⟩
    have g5 : Gp s s5 := by rw [hs5]; exact g1.set_new (Nat.le_refl _)
    have a5 : s5[s.length]? = some (.dct (DK (uncL ss xs))) := by rw [hs5]; exact set_get (by simp)
    have back : ((s2.set s.length (.dct (DK (uncL ss xs)))).set f3 (.dct (DK (srt ss)))) = s5 := by
      rw [hs2, hs5]
      rw [List.set_comm _ _ (by omega : s.length ≠ f3), List.set_set]
      have : ((s ++ [O.dct (DK [])]).set f3 (.dct (DK (srt ss)))) = s ++ [O.dct (DK [])] := set_same (g1 _ _ e3)
      rw [this]
    obtain ⟨s6, g6, mk, sch⟩ := mk_sch b.toBP (k := k') hk' (g5 _ _ e1) (g5 _ _ e2) a5 (p.unc xs) (o.unc p xs)
    refine ⟨s6, g5.trans g6, s5.length, s5.length + 1, call_rt b.h86 (τ := [some (.ref i), some (.ref l), none, none, none]) rfl rfl ?_, sch⟩
    refine (exs_nx fo).trans ((exs_asg (d := .ref s.length) (s' := s ++ [O.dct (DK [])]) rfl).trans ?_)
    have fl1 := own_fld b.toBP (k := k') (g1 _ _ e0) (f := "service_table") (by simp) (d := .ref f3) rfl
    have lk : lkOf (evE (clF Γ k') (.fld (.var 0) "service_table") [some (.ref i), some (.ref l), x2', some (.ref s.length), none] (s ++ [O.dct (DK [])])) (s ++ [O.dct (DK [])]) = some (f3, DK (srt ss)) := by
      simp only [evE, ev, plainT, List.getElem?_cons_zero, R.bind_ok, fl1, lkOf, dctAt_at (g1 _ _ e3), Option.map_some]
    have fo2 := (ex_for (cl := clF Γ k') (τ := [some (.ref i), some (.ref l), x2', some (.ref s.length), none]) (s := s2) (t := .tup [2, 4]) (k := .items) (body := itBody) (its := .cons (.fld (.var 0) "service_table") .nil) (ds := [.ref f3]) (s1 := s2) (src := .dki f3 (DK (srt ss))) (by
      simp only [evs, ev, plainT, List.getElem?_cons_zero, R.bind_ok, fl2]) (by simp only [srcOf, q3])).trans lp2
    have ilk : (s2.set s.length (.dct (DK (uncL ss xs))))[f3]? = some (.frd (DK (srt ss))) := by rw [List.getElem?_set_ne (by omega)]; exact q3
    refine (exs_nx (τ' := [some (.ref i), some (.ref l), y2, some (.ref s.length), y4]) (s' := s5) ?_).trans (exs_ret ?_)
    · show ex (clF Γ k') (.lk (.fld (.var 0) "service_table") (.for_ (.tup [2, 4]) .items (.cons (.fld (.var 0) "service_table") .nil) itBody)) [some (.ref i), some (.ref l), x2', some (.ref s.length), none] (s ++ [O.dct (DK [])]) = _
      rw [ex, lk]
      show lkS f3 (ex (clF Γ k') (.for_ (.tup [2, 4]) .items (.cons (.fld (.var 0) "service_table") .nil) itBody) [some (.ref i), some (.ref l), x2', some (.ref s.length), none] ((s ++ [O.dct (DK [])]).set f3 (.frd (DK (srt ss))))) = _
      rw [← hs2, fo2]
      simp only [lkS, unlk, ilk, back]
    · have ini : initF (clF Γ k') "Schema" = some 76 := by
        obtain ⟨c, h1, _, h2⟩ := b.hc
        have h1 : (clF Γ k').cls "Schema" = some c := h1
        simp only [initF, h1, Option.bind_some, h2]
      have w1 := own_fld b.toBP (k := k') (g5 _ _ e0) (f := "width_table") (by simp) (d := .ref f1) rfl
      have w2 := own_fld b.toBP (k := k') (g5 _ _ e0) (f := "key_table") (by simp) (d := .ref f2) rfl
      simp only [evE, ev, evs, plainT, List.getElem?_cons_zero, List.getElem?_cons_succ, R.bind_ok, ini, w1, w2, mk]
end
end SL

set_option Elab.async false
set_option linter.all false
set_option maxRecDepth 100000
set_option autoImplicit false
set_option maxHeartbeats 1000000
/-! SNe: what is due without some caps, and whether it holds. -/
namespace SL
open PySem L2 G
theorem sortT_perm {a b : List Str} (h : a.Perm b) : sortT a = sortT b :=
  List.Perm.eq_of_pairwise (fun x y _ _ => leT_anti) (List.pairwise_mergeSort leT_trans leT_total a) (List.pairwise_mergeSort leT_trans leT_total b) ((List.mergeSort_perm a leT).trans (h.trans (List.mergeSort_perm b leT).symm))
def dueL (ss : List (Str × D)) (xs : List Str) : List (Str × D) := ss.map fun p => (p.1, if p.1 ∈ xs then uncD p.2 else p.2)
theorem getK_mapv {a : List (Str × D)} {f : Str → D → D} {x : Str} : getK (a.map fun p => (p.1, f p.1 p.2)) x = (getK a x).map (f x) := by
  induction a with
  | nil => rfl
  | cons p a ih =>
    unfold getK at ih ⊢
    rw [List.map_cons, List.find?_cons, List.find?_cons]
    by_cases e : p.1 = x
    · subst e; simp
    · simp only [decide_eq_false e]
      exact ih
section
variable {ts ks ss : List (Str × D)} {xs : List Str} {x : Str}
def uncF (xs : List Str) (x : Str) (d : D) : D := if x ∈ xs then uncD d else d
theorem getK_unc : getK (uncL ss xs) x = (getK ss x).map (uncF xs x) := (getK_mapv (a := srt ss) (f := uncF xs)).trans (by rw [getK_srt])
theorem getK_due : getK (dueL ss xs) x = (getK ss x).map (uncF xs x) := getK_mapv (a := ss) (f := uncF xs)
theorem dueL_keys : (dueL ss xs).map (·.1) = ss.map (·.1) := by
  unfold dueL
  rw [List.map_map]
  rfl
theorem dueL_len : (dueL ss xs).length = ss.length := by unfold dueL; rw [List.length_map]
theorem Pt3.due (h : Pt3 ts ks ss) (xs : List Str) : Pt3 ts ks (dueL ss xs) := by
  refine ⟨h.tb, h.ky, by rw [dueL_keys]; exact h.nd, fun p hp => ?_, h.t1, h.t5, h.k9, by rw [dueL_len]; exact h.s1, by rw [dueL_len]; exact h.s8⟩
  obtain ⟨q, hq, rfl⟩ := List.mem_map.mp hp
  obtain ⟨h1, h2⟩ := h.sv q hq
  obtain ⟨t, g, c, w, e, t1, t2, t3⟩ := serv_shape h2
  refine ⟨h1, ?_⟩
  show isServD (DK ts) (if q.1 ∈ xs then uncD q.2 else q.2) = true
  rw [e]
  split
  · exact serv_mk (h.tb.at t1).1 t1 t2 rfl
  · exact serv_mk (h.tb.at t1).1 t1 t2 t3
theorem capN_due : capN (srt ts) (srt ks) (uncL ss xs) = capN ts ks (dueL ss xs) := by
  unfold capN
  have hss : sortT (sortT (ss.map (·.1))) = sortT (ss.map (·.1)) := sortT_perm (List.mergeSort_perm _ _)
  rw [uncL_keys, dueL_keys, hss]
  congr 1
  funext y
  rw [getK_unc, getK_due, wholeB_srt]
end
section
variable {Γ : Ga} {s : S} {b0 i t m q l : Nat} {ts ks ss : List (Str × D)} {xs : List Str}
theorem ex_asg3 {cl : CL} {e : Ex} {τ : Fr} {s s' : S} {i j k : Nat} {x y z : D} (h : evE cl e τ s = .ok (.tup [x, y, z]) s') : ex cl (.asg (.loc (.tup [i, j, k])) e) τ s = .nx (((τ.set i (some x)).set j (some y)).set k (some z)) s' := by
  simp only [ex, h, R.toS_ok, store, asgV]
  rfl
theorem due_ok (b : BE Γ) {k : Nat} (hk : 1 ≤ k) (hq : s[q]? = some (.dct (DK ss))) (hl : s[l]? = some (.lst (xs.map .str))) (hx : ∀ x ∈ xs, Asc x) (p : Pt3 ts ks ss) :
    ∃ s', Gp s s' ∧ (clF Γ k).call 309 [.ref q, .ref l] s = .ok (.ref s.length) s' ∧ s'[s.length]? = some (.dct (DK (dueL ss xs))) := by
  obtain ⟨j, rfl, hj⟩ := lv hk
  have s8 := p.s8
  have g1 := Gp.new s (.dct (DK []))
  have g2 := Gp.new (s ++ [.dct (DK [])]) (.lst ((ss.map (·.1)).map .str))
  have ll := list_dct (g1 _ _ hq)
  have G2 := g1.trans g2
  have ltq := (List.getElem?_eq_some_iff.mp hq).1
  have ltl := (List.getElem?_eq_some_iff.mp hl).1
  obtain ⟨s2, hs2⟩ : ∃ s2 : S, s2 = (s ++ [.dct (DK [])]) ++ [.lst ((ss.map (·.1)).map .str)] := ⟨_, rfl⟩
  have a2 : s2[s.length]? = some (.dct (DK [])) := by rw [hs2]; exact g2 _ _ new_at
  have l2 : s2[(s ++ [O.dct (DK [])]).length]? = some (.lst ((ss.map (·.1)).map .str)) := by rw [hs2]; exact new_at
  have G2 : Gp s s2 := by rw [hs2]; exact G2
  have lt2 := (List.getElem?_eq_some_iff.mp a2).1
  have la : (s ++ [O.dct (DK [])]).length ≠ s.length := by simp
  obtain ⟨τ', s', lp, ⟨y3, y4, y5, y6, rfl⟩, rfl⟩ := forS_inv (ok := (Src.lst (s ++ [O.dct (DK [])]).length ((ss.map (·.1)).map .str)).ok) (g := forB (clF Γ j) (.var 3) (.cons (.asg (.loc (.tup [4, 5, 6])) (.ix (.var 0) (.var 3)))
    (.cons (.ite (.cmp .inn (.var 3) (.var 1)) (.cons (.asg (.loc (.var 6)) (.cst .non)) .nil) (.nil))
    (.cons (.asg (.sub (.var 2) (.var 3)) (.tup (.cons (.var 4) (.cons (.var 5) (.cons (.var 6) .nil))))) .nil)))) (items := (ss.map (·.1)).map .str) (τ := [some (.ref q), some (.ref l), some (.ref s.length), none, none, none, none]) (s := s2)
    (fun idx τ s' => (∃ y3 y4 y5 y6, τ = [some (.ref q), some (.ref l), some (.ref s.length), y3, y4, y5, y6]) ∧ s' = s2.set s.length (.dct (DK ((dueL ss xs).take idx)))) (fun idx τ s' ⟨_, e⟩ => by
      rw [e]; exact lstAt_of (by rw [List.getElem?_set_ne (Ne.symm la)]; exact l2)) (fun idx d τ s' hi ⟨⟨y3, y4, y5, y6, hτ⟩, hs'⟩ => by
      subst hτ hs'
      rw [List.getElem?_map, Option.map_eq_some_iff] at hi
      obtain ⟨x, hxi, rfl⟩ := hi
      rw [List.getElem?_map, Option.map_eq_some_iff] at hxi
      obtain ⟨z, hz, rfl⟩ := hxi
      have hil := (List.getElem?_eq_some_iff.mp hz).1
      have hmem := List.mem_of_getElem? hz
      obtain ⟨w1, w2⟩ := p.sv z hmem
      obtain ⟨tt, g, c, w, ed, t1, t2, t3⟩ := serv_shape w2
      have hun : (dueL ss xs)[idx]? = some (z.1, if z.1 ∈ xs then uncD z.2 else z.2) := by unfold dueL; rw [List.getElem?_map, hz]; rfl
      have tk : (dueL ss xs).take (idx + 1) = (dueL ss xs).take idx ++ [(z.1, if z.1 ∈ xs then uncD z.2 else z.2)] := by rw [List.take_add_one, hun]; rfl
      have hnot : z.1 ∉ ((dueL ss xs).take idx).map (·.1) := fun zz => by
        have nd : ((dueL ss xs).map (·.1)).Nodup := by rw [dueL_keys]; exact p.nd
        rw [← List.take_append_drop (idx + 1) (dueL ss xs), tk, List.map_append, List.map_append] at nd
        have := (List.nodup_append.mp (List.nodup_append.mp nd).1).2.2
        exact this z.1 zz z.1 (by simp) rfl
      obtain ⟨s4, hs4⟩ : ∃ s4 : S, s4 = s2.set s.length (.dct (DK ((dueL ss xs).take idx))) := ⟨_, rfl⟩
      have r4 : s4[s.length]? = some (.dct (DK ((dueL ss xs).take idx))) := by rw [hs4]; exact set_get lt2
      have l4 : s4[l]? = some (.lst (xs.map .str)) := by rw [hs4, List.getElem?_set_ne (by omega)]; exact G2 _ _ hl
      have q4 : s4[q]? = some (.dct (DK ss)) := by rw [hs4, List.getElem?_set_ne (by omega)]; exact G2 _ _ hq
      have ix := ix_dct q4 (x := z.1) (d := z.2) (by rw [getK_DK]; exact getK_of_mem p.nd hmem)
      have st := set_dct (x := z.1) (d := if z.1 ∈ xs then uncD z.2 else z.2) r4 (by rw [List.length_take, dueL_len]; omega) hnot
      rw [← tk] at st
      have st : setD (.ref s.length) (.str z.1) (if z.1 ∈ xs then uncD z.2 else z.2) s4 = some (s2.set s.length (.dct (DK ((dueL ss xs).take (idx + 1))))) := st.trans (by rw [hs4, List.set_set])
      have ii := inn_strs l4 (wordB_asc w1) hx
      rw [← hs4]
      have cc : evT (clF Γ j) (.cmp .inn (.var 3) (.var 1)) [some (.ref q), some (.ref l), some (.ref s.length), some (.str z.1), some (.str tt), some (.tup g), some c] s4 = .ok (decide (z.1 ∈ xs)) s4 := by
        simp only [evT, ev, plainT, asB, List.getElem?_cons_zero, List.getElem?_cons_succ, R.bind_ok, ii]
      have p1 : ∀ cs, exs (clF Γ j) (.cons (.asg (.loc (.tup [4, 5, 6])) (.ix (.var 0) (.var 3))) cs) [some (.ref q), some (.ref l), some (.ref s.length), some (.str z.1), y4, y5, y6] s4 = exs (clF Γ j) cs [some (.ref q), some (.ref l), some (.ref s.length), some (.str z.1), some (.str tt), some (.tup g), some c] s4 := fun cs => exs_nx (ex_asg3 (by
        simp only [evE, ev, plainT, List.getElem?_cons_zero, List.getElem?_cons_succ, R.bind_ok, ix, ed]))
      by_cases hm : z.1 ∈ xs
      · rw [decide_eq_true hm] at cc
        rw [if_pos hm] at st
        have eu : uncD z.2 = .tup [.str tt, .tup g, .non] := by rw [ed]; rfl
        rw [eu] at st
        refine ⟨[some (.ref q), some (.ref l), some (.ref s.length), some (.str z.1), some (.str tt), some (.tup g), some .non], _, ?_, ⟨_, _, _, _, rfl⟩, rfl⟩
        rw [forB_var]
        exact (p1 _).trans ((exs_nx ((ite_t cc).trans ((exs_asg (d := .non) (s' := s4) rfl).trans rfl))).trans ((exs_sub (d := .tup [.str tt, .tup g, .non]) (x := .ref s.length) (y := .str z.1) (s1 := s4) (s2 := s4) (s3 := s4) rfl rfl rfl st).trans rfl))
      · rw [decide_eq_false hm] at cc
        rw [if_neg hm, ed] at st
        refine ⟨[some (.ref q), some (.ref l), some (.ref s.length), some (.str z.1), some (.str tt), some (.tup g), some c], _, ?_, ⟨_, _, _, _, rfl⟩, rfl⟩
        rw [forB_var]
        exact (p1 _).trans ((exs_skip cc).trans ((exs_sub (d := .tup [.str tt, .tup g, c]) (x := .ref s.length) (y := .str z.1) (s1 := s4) (s2 := s4) (s3 := s4) rfl rfl rfl st).trans rfl))) ⟨⟨none, none, none, none, rfl⟩, by
        apply List.ext_getElem?
        intro jj
        by_cases e : s.length = jj
        · subst e; rw [set_get lt2, a2]; rfl
        · rw [List.getElem?_set_ne e]⟩
  have full : (dueL ss xs).take ((ss.map (·.1)).map D.str).length = dueL ss xs := by
    rw [List.length_map, List.length_map, ← dueL_len (ss := ss) (xs := xs)]
    exact List.take_length
  rw [full] at lp
  refine ⟨s2.set s.length (.dct (DK (dueL ss xs))), G2.set_new (Nat.le_refl _), call_rt b.h309 (τ := [some (.ref q), some (.ref l), none, none, none, none, none]) rfl rfl ?_, set_get lt2⟩
  refine (exs_asg (d := .ref s.length) (s' := s ++ [.dct (DK [])]) rfl).trans ?_
  refine (exs_nx (τ' := [some (.ref q), some (.ref l), some (.ref s.length), y3, y4, y5, y6]) ?_).trans (exs_ret (d := .ref s.length) rfl)
  refine (ex_for (ds := [.ref (s ++ [O.dct (DK [])]).length]) (s1 := s2) (src := .lst (s ++ [O.dct (DK [])]).length ((ss.map (·.1)).map .str)) ?_ (by simp only [srcOf, lstAt_of l2])).trans lp
  rw [hs2]
  simp only [evs, ev, plainT, List.set_cons_succ, List.set_cons_zero, List.getElem?_cons_zero, R.bind_ok, ll]
/-- [name for name in sorted(list(d)) if not whole] -/
theorem nonwhole_names (b : BW Γ) {k : Nat} (hk : 1 ≤ k) {τ : Fr} {v iq it im : Nat} {own : Str} (hv : v < τ.length) (v1 : iq ≠ v) (v2 : it ≠ v) (v3 : im ≠ v) (h1 : τ[iq]? = some (some (.ref q))) (h2 : τ[it]? = some (some (.ref t))) (h3 : τ[im]? = some (some (.ref m)))
    (hn : s[t]? = some (.dct (DK ts))) (hm : s[m]? = some (.dct (DK ks))) (hq : s[q]? = some (.dct (DK ss))) (p : Pt3 ts ks ss) :
    ∃ l s', Gp s s' ∧ s'[l]? = some (.lst ((capN ts ks ss).map .str)) ∧ evE (clF Γ k) (.lc (.var v) (.var v) .seq (.cons (.blt .sorted (.cons (.blt .list (.cons (.var iq) .nil)) .nil)) .nil) (.not (.call 198 (.cons (.var it) (.cons (.var im) (.cons (.ix (.var iq) (.var v)) .nil))))) [(own, v)]) τ s = .ok (.ref l) s' := by
  have s8 := p.s8
  obtain ⟨l, s1, g1, e1, e2⟩ := names_of (cl := clF Γ k) h1 hq (by omega)
  have g1 := Gp.of g1
  obtain ⟨r, s2, lc, hr, g2⟩ := lcS_inv (ok := (Src.lst l ((sortT (ss.map (·.1))).map .str)).ok) (items := (sortT (ss.map (·.1))).map .str) (s := s1) (g := lcB (clF Γ k) τ [v] (.var v) (.not (.call 198 (.cons (.var it) (.cons (.var im) (.cons (.ix (.var iq) (.var v)) .nil))))) (.var v))
    (fun j r s' => r = (((sortT (ss.map (·.1))).take j).filter fun y => !wholeB ts ks ((getK ss y).getD .non)).map .str ∧ Gp s1 s') (fun j r s' ⟨_, g⟩ => lstAt_of (g _ _ e1)) (fun j d r s' hi ⟨hr, g⟩ => by
      rw [List.getElem?_map, Option.map_eq_some_iff] at hi
      obtain ⟨y, hy, rfl⟩ := hi
      obtain ⟨d, hd, _⟩ := getK_mem (mem_sortT.mp (List.mem_of_getElem? hy))
      have gg := g1.trans g
      have ix := ix_dct (gg _ _ hq) (x := y) (by rw [getK_DK]; exact hd)
      obtain ⟨tt, gv, c, ww, w1, w2, w3, _⟩ := serv_shape (p.srv _ _ hd)
      obtain ⟨s3, g3, wh⟩ := l_whole b (k := k) hk (gg _ _ hn) (gg _ _ hm) p.ky.kok ⟨tt, gv, c, ww, w1, w2, w3⟩ p.kl
      have q1 : ((wipeF τ [v]).set v (some (.str y)))[iq]? = some (some (.ref q)) := by
        show ((τ.set v none).set v _)[iq]? = _
        rw [List.getElem?_set_ne (Ne.symm v1), List.getElem?_set_ne (Ne.symm v1)]; exact h1
      have q2 : ((wipeF τ [v]).set v (some (.str y)))[it]? = some (some (.ref t)) := by
        show ((τ.set v none).set v _)[it]? = _
        rw [List.getElem?_set_ne (Ne.symm v2), List.getElem?_set_ne (Ne.symm v2)]; exact h2
      have q3 : ((wipeF τ [v]).set v (some (.str y)))[im]? = some (some (.ref m)) := by
        show ((τ.set v none).set v _)[im]? = _
        rw [List.getElem?_set_ne (Ne.symm v3), List.getElem?_set_ne (Ne.symm v3)]; exact h3
      have q4 : ((wipeF τ [v]).set v (some (.str y)))[v]? = some (some (.str y)) := by
        show ((τ.set v none).set v _)[v]? = _
        rw [List.getElem?_set_self (by rw [List.length_set]; exact hv)]
      have e : evT (clF Γ k) (.not (.call 198 (.cons (.var it) (.cons (.var im) (.cons (.ix (.var iq) (.var v)) .nil))))) ((wipeF τ [v]).set v (some (.str y))) s' = .ok (!wholeB ts ks d) s3 := by
        simp only [evT, ev, evs, plainT, asB, q1, q2, q3, q4, R.bind_ok, ix, wh, truD]
      have e5 : evE (clF Γ k) (.var v) ((wipeF τ [v]).set v (some (.str y))) s3 = .ok (.str y) s3 := by simp only [evE, ev, plainT, q4]
      have tk : (sortT (ss.map (·.1))).take (j + 1) = (sortT (ss.map (·.1))).take j ++ [y] := by rw [List.take_add_one, hy]; rfl
      cases hqq : wholeB ts ks d with
      | true =>
        rw [hqq] at e
        refine ⟨none, s3, lcB_no rfl e, ?_, g.trans g3⟩
        rw [hr, tk, List.filter_append]
        simp [hd, hqq]
      | false =>
        rw [hqq] at e
        refine ⟨some (.str y), s3, lcB_if rfl e e5, ?_, g.trans g3⟩
        rw [hr, tk, List.filter_append]
        simp [hd, hqq]) ⟨by simp, Gp.refl s1⟩
  rw [List.length_map, List.take_length] at hr
  have hr : r = (capN ts ks ss).map .str := hr
  subst hr
  refine ⟨s2.length, s2 ++ [.lst ((capN ts ks ss).map .str)], (g1.trans g2).trans (Gp.new _ _), new_at, ?_⟩
  exact ev_lc (s1 := s1) (s2 := s2) (src := .lst l ((sortT (ss.map (·.1))).map .str)) e2 (by simp only [srcOf, lstAt_of e1]) (by
    show ((sortT (ss.map (·.1))).map D.str).length < sizeLine
    rw [List.length_map, sortT_len, List.length_map]
    exact Nat.lt_of_le_of_lt s8 (by decide)) lc
end
end SL

set_option Elab.async false
set_option linter.all false
set_option maxRecDepth 100000
set_option autoImplicit false
set_option maxHeartbeats 1000000
/-! SNf: a schema without some caps, as the law asks it. -/
namespace SL
open PySem L2 G
theorem list_lst {s : S} {n : Nat} {ds : List D} (h : s[n]? = some (.lst ds)) : bltD .list [.ref n] s = .ok (.ref s.length) (s ++ [.lst ds]) := by
  simp only [bltD, dctOf, dctAt, h, seqOf, lstAt, new]
def unkL (ss : List (Str × D)) (xs : List Str) : List Str := xs.filter fun x => !(getK ss x).isSome
theorem unk_head {ss : List (Str × D)} {xs : List Str} : (unkL ss xs).head? = unkF ss xs := List.head?_filter
def tryU : Cm := .try_ (.cons (.asg (.loc (.var 7)) (.mc "uncapped" (.var 0) (.cons (.var 6) .nil))) .nil) (.cons "UnknownName" (some 10) (.cons (.asg (.loc (.var 8)) (.efld 10 "name"))
    (.cons (.asg (.loc (.var 9)) (.eis 10 "CappedError")) .nil)) .nil)
section
variable {Γ : Ga} {s : S} {b0 i t m q l : Nat} {ts ks ss : List (Str × D)} {xs : List Str}
theorem try_unc (b : BE Γ) {k : Nat} (hk : 6 ≤ k) (h : Sch s b0 i ts ks ss) (p : Pt3 ts ks ss) (o : One ts ks ss) {w : Nat} (hw : s[w]? = some (.lst (xs.map .str))) (hx : ∀ x ∈ xs, Asc x) {a1 a2 a3 a4 a5 : D} :
    ∃ s', Gp s s' ∧ (match unkF ss xs with
      | some x => ex (clF Γ k) tryU [some (.ref i), some a1, some a2, some a3, some a4, some a5, some (.ref w), some .non, some .non, some (.bl false), none, none, none, none] s = .nx [some (.ref i), some a1, some a2, some a3, some a4, some a5, some (.ref w), some .non, some (.str x), some (.bl true), none, none, none, none] s'
      | none => ∃ j b1, ex (clF Γ k) tryU [some (.ref i), some a1, some a2, some a3, some a4, some a5, some (.ref w), some .non, some .non, some (.bl false), none, none, none, none] s = .nx [some (.ref i), some a1, some a2, some a3, some a4, some a5, some (.ref w), some (.ref j), some .non, some (.bl false), none, none, none, none] s' ∧ Sch s' b1 j (srt ts) (srt ks) (uncL ss xs)) := by
  obtain ⟨s', g, u⟩ := uncapped_ok b hk h p o hw hx
  refine ⟨s', g, ?_⟩
  obtain ⟨kk, m1, m2, m3, m4⟩ := b.hm2
  obtain ⟨W, C, ⟨f1, f2, f3, f4, f5, _, e0, _⟩, _⟩ := h.ini
  obtain ⟨ec, h1, h2, h3, h4⟩ := b.hus
  have h1 : (clF Γ k).ecl "UnknownName" = some ec := h1
  have hs : hsOk (clF Γ k) (.cons "UnknownName" (some 10) (.cons (.asg (.loc (.var 8)) (.efld 10 "name"))
    (.cons (.asg (.loc (.var 9)) (.eis 10 "CappedError")) .nil)) .nil) = true := by
    simp only [hsOk, h1, Option.isSome_some, Bool.and_self]
  have mc := mc_of (k := k) ⟨kk, m1, m3⟩ e0 rfl
  have ce : evE (clF Γ k) (.mc "uncapped" (.var 0) (.cons (.var 6) .nil)) [some (.ref i), some a1, some a2, some a3, some a4, some a5, some (.ref w), some .non, some .non, some (.bl false), none, none, none, none] s = (clF Γ k).call 86 [.ref i, .ref w] s := by
    simp only [evE, ev, evs, plainT, List.getElem?_cons_zero, List.getElem?_cons_succ, R.bind_ok, mc]
  cases hu : unkF ss xs with
  | none =>
    rw [hu] at u
    obtain ⟨j, b1, u1, u2⟩ := u
    refine ⟨j, b1, ?_, u2⟩
    rw [u1] at ce
    have body := (exs_asg (i := 7) (cs := .nil) ce).trans rfl
    simp only [tryU, ex, hs, if_true]
    rw [body]
    rfl
  | some x =>
    rw [hu] at u
    simp only at u ⊢
    rw [u] at ce
    have body : exs (clF Γ k) (.cons (.asg (.loc (.var 7)) (.mc "uncapped" (.var 0) (.cons (.var 6) .nil))) .nil) [some (.ref i), some a1, some a2, some a3, some a4, some a5, some (.ref w), some .non, some .non, some (.bl false), none, none, none, none] s = .exc [some (.ref i), some a1, some a2, some a3, some a4, some a5, some (.ref w), some .non, some .non, some (.bl false), none, none, none, none] "UnknownName" (unk x) s' := by
      refine exs_exc ?_
      simp only [ex, ce]
      rfl
    have c1 : ec.fields.contains "name" = true := by rw [h2]; decide +kernel
    have c2 : (unk x).lookup ("name" : Str) = some (.str x) := rfl
    simp only [tryU, ex, hs, if_true, body]
    simp only [exh, h1, h3, if_true, exs, ex, evE, ev, evs, plainT, efD, eiD, h4, clr, List.set_cons_zero, List.set_cons_succ, List.length_cons, List.length_nil, c1, c2, R.bind_ok, Cst.d]
    have q1 : True ∧ 10 < 0 + 1 + 1 + 1 + 1 + 1 + 1 + 1 + 1 + 1 + 1 + 1 + 1 + 1 + 1 := ⟨trivial, by decide⟩
    simp only [q1, and_self, true_and, if_true, true_or, or_true, R.toS_ok, store, asgV, SR.bind_nx]
    rfl
theorem uncapped_holds (b : BE Γ) {k : Nat} (hk : 7 ≤ k) (h : Sch s b0 i ts ks ss) (hn : s[t]? = some (.dct (DK ts))) (hm : s[m]? = some (.dct (DK ks))) (hq : s[q]? = some (.dct (DK ss))) (p : Pt3 ts ks ss) (o : One ts ks ss) (hl : s[l]? = some (.lst (xs.map .str))) (hx : ∀ x ∈ xs, Asc x) (hxl : xs.length < 64) :
    ∃ s', Gp s s' ∧ (clF Γ k).call 310 [.ref i, .ref t, .ref m, .ref q, .ref l] s = .ok (.bl true) s' := by
  obtain ⟨j, rfl, hj⟩ := lv hk
  have hux : ∀ y ∈ unkL ss xs, Asc y := fun y hy => hx y (List.mem_filter.mp hy).1
  -- the unknown names
  have lc : lcS (Src.lst l (xs.map .str)).ok (lcB (clF Γ j) [some (.ref i), some (.ref t), some (.ref m), some (.ref q), some (.ref l), none, none, none, none, none, none, none, none, none] [13] (.var 13) (.cmp .nin (.var 13) (.var 3)) (.var 13)) (xs.map .str) s = .ok ((unkL ss xs).map .str) s := by
    have nof : (xs.map D.str).filter (fun d => match d with | .str x => !(getK ss x).isSome | _ => false) = (unkL ss xs).map D.str := by
      unfold unkL
      rw [List.filter_map]
      rfl
    rw [← nof]
    refine lcS_keep (lstAt_of hl) _ fun d hd => ?_
    obtain ⟨y, hy, rfl⟩ := List.mem_map.mp hd
    have nq := nin_dct (x := y) hq
    rw [getK_DK] at nq
    have e : evT (clF Γ j) (.cmp .nin (.var 13) (.var 3)) [some (.ref i), some (.ref t), some (.ref m), some (.ref q), some (.ref l), none, none, none, none, none, none, none, none, some (.str y)] s = .ok (!(getK ss y).isSome) s := by
      simp only [evT, ev, plainT, asB, List.getElem?_cons_zero, List.getElem?_cons_succ, R.bind_ok, nq]
    simp only
    by_cases hg : (!(getK ss y).isSome) = true
    · rw [hg] at e; rw [if_pos hg]; exact lcB_if rfl e rfl
    · rw [if_neg hg]; rw [Bool.not_eq_true] at hg; rw [hg] at e; exact lcB_no rfl e
  have e1 : evE (clF Γ j) (.lc (.var 13) (.var 13) .seq (.cons (.var 4) .nil) (.cmp .nin (.var 13) (.var 3)) [("_law_name", 13)]) [some (.ref i), some (.ref t), some (.ref m), some (.ref q), some (.ref l), none, none, none, none, none, none, none, none, none] s = .ok (.ref s.length) (s ++ [.lst ((unkL ss xs).map .str)]) :=
    ev_lc (s1 := s) (s2 := s) (ds := [.ref l]) (src := .lst l (xs.map .str)) rfl (by simp only [srcOf, lstAt_of hl]) (by
      show (xs.map D.str).length < sizeLine
      rw [List.length_map]; exact Nat.lt_trans hxl (by decide)) lc
  have g1 := Gp.new s (.lst ((unkL ss xs).map .str))
  have l1 := new_at (s := s) (o := .lst ((unkL ss xs).map .str))
  obtain ⟨s1, hs1⟩ : ∃ s1 : S, s1 = s ++ [.lst ((unkL ss xs).map .str)] := ⟨_, rfl⟩
  rw [← hs1] at e1 g1 l1
  have e2 := list_lst (g1 _ _ hl)
  have g2 := Gp.new s1 (.lst (xs.map .str))
  have l2 := new_at (s := s1) (o := .lst (xs.map .str))
  have G2 := g1.trans g2
  obtain ⟨s3, g3, u⟩ := try_unc b (k := j) (by omega) (h.gp G2) p o l2 hx (a1 := .ref t) (a2 := .ref m) (a3 := .ref q) (a4 := .ref l) (a5 := .ref s.length)
  have G3 := G2.trans g3
  have q1 := eq_strs (s := s3) hx (g3 _ _ l2) (G3 _ _ hl)
  have g4 := Gp.new s3 (.lst [])
  have n4 := new_at (s := s3) (o := .lst [])
  have us4 := g4 _ _ (g3 _ _ (g2 _ _ l1))
  have q2 := eq_nil (ds := (unkL ss xs).map .str) (fun d hd => by
    obtain ⟨y, hy, rfl⟩ := List.mem_map.mp hd
    exact hux y hy) us4 n4
  obtain ⟨s4, hs4⟩ : ∃ s4 : S, s4 = s3 ++ [.lst []] := ⟨_, rfl⟩
  rw [← hs4] at g4 us4 q2
  have start : ∀ {r : SR}, exs (clF Γ j) (.cons tryU (.cons (.ite (.cmp .ne (.var 6) (.var 4)) (.cons (.ret (.cst (.bl false))) .nil) (.nil))
    (.cons (.ite (.cmp .ne (.var 5) (.lst .nil)) (.cons (.ret (.and (.var 9) (.cmp .eq (.var 8) (.ix (.var 5) (.cst (.int 0)))))) .nil) (.nil))
    (.cons (.ite (.or (.cmp .isn (.var 7) (.cst .non)) (.or (.cmp .ne (.fld (.var 7) "tables") (.var 1)) (.cmp .ne (.fld (.var 7) "key_columns") (.var 2)))) (.cons (.ret (.cst (.bl false))) .nil) (.nil))
    (.cons (.asg (.loc (.var 11)) (.call 309 (.cons (.var 3) (.cons (.var 4) .nil))))
    (.cons (.asg (.loc (.var 12)) (.lc (.var 13) (.var 13) .seq (.cons (.blt .sorted (.cons (.blt .list (.cons (.var 11) .nil)) .nil)) .nil) (.not (.call 198 (.cons (.var 1) (.cons (.var 2) (.cons (.ix (.var 11) (.var 13)) .nil))))) [("_law_name", 13)]))
    (.cons (.ret (.and (.cmp .eq (.fld (.var 7) "services") (.var 11)) (.cmp .eq (.mc "capped_names" (.var 7) .nil) (.var 12)))) .nil)))))))
      [some (.ref i), some (.ref t), some (.ref m), some (.ref q), some (.ref l), some (.ref s.length), some (.ref s1.length), some .non, some .non, some (.bl false), none, none, none, none] (s1 ++ [.lst (xs.map .str)]) = r →
      exs (clF Γ j) b310 [some (.ref i), some (.ref t), some (.ref m), some (.ref q), some (.ref l), none, none, none, none, none, none, none, none, none] s = r := fun h => by
    refine (exs_asg e1).trans ((exs_asg (d := .ref s1.length) (s' := s1 ++ [.lst (xs.map .str)]) ?_).trans ((exs_asg (d := .non) rfl).trans ((exs_asg (d := .non) rfl).trans ((exs_asg (d := .bl false) rfl).trans h))))
    simp only [evE, ev, evs, plainT, List.set_cons_zero, List.set_cons_succ, List.getElem?_cons_zero, List.getElem?_cons_succ, R.bind_ok, e2]
  have c2 : ∀ {a7 a8 a9 : D} {bb : Bool}, ((unkL ss xs).map D.str).isEmpty = bb → evT (clF Γ j) (.cmp .ne (.var 5) (.lst .nil)) [some (.ref i), some (.ref t), some (.ref m), some (.ref q), some (.ref l), some (.ref s.length), some (.ref s1.length), some a7, some a8, some a9, none, none, none, none] s3 = .ok (!bb) s4 := fun hb => by
    rw [hb] at q2
    rw [hs4] at q2 ⊢
    simp only [evT, ev, evs, plainT, asB, List.getElem?_cons_zero, List.getElem?_cons_succ, R.bind_ok, new, cmpD, q2]
  have hh := unk_head (ss := ss) (xs := xs)
  cases hu : unkF ss xs with
  | some x =>
    rw [hu] at u hh
    simp only at u
    obtain ⟨r, hr⟩ : ∃ r, unkL ss xs = x :: r := by
      cases hq : unkL ss xs with
      | nil => rw [hq] at hh; cases hh
      | cons y r => rw [hq] at hh; cases hh; exact ⟨r, rfl⟩
    have ax : Asc x := hux x (by rw [hr]; simp)
    have em : ((unkL ss xs).map D.str).isEmpty = false := by rw [hr]; rfl
    have ix := ixD_ref us4 (i := 0) (by decide) (d := .str x) (by rw [hr]; rfl)
    have es := eqD_self (s := s4) (k := 0) (by decide) (data_fl (d := .str x) ax)
    refine ⟨s4, G3.trans g4, call_rt b.h310 (τ := [some (.ref i), some (.ref t), some (.ref m), some (.ref q), some (.ref l), none, none, none, none, none, none, none, none, none]) rfl rfl (start ?_)⟩
    refine (exs_nx u).trans ((exs_skip (ne_f rfl rfl q1)).trans (exs_in (c2 em) (exs_ret ?_)))
    simp only [evE, ev, evs, plainT, asB, List.getElem?_cons_zero, List.getElem?_cons_succ, R.bind_ok, Cst.d, ix, cmpD, es, truD]
  | none =>
    rw [hu] at u hh
    obtain ⟨v, b1, u1, sch3⟩ := u
    have em : ((unkL ss xs).map D.str).isEmpty = true := by
      cases hq : unkL ss xs with
      | nil => rfl
      | cons y r => rw [hq] at hh; cases hh
    have G4 := G3.trans g4
    have sch4 := sch3.gp g4
    have pu := p.unc xs
    have pd := p.due xs
    obtain ⟨da, db, dc⟩ := p.dat
    -- its tables and keys
    obtain ⟨W, C, hini, hW⟩ := sch4.ini
    have p1 := (props_ok b.toBP (k := j) (by omega) hini).2.1
    have g5 := Gp.new s4 (.dct (DK (srt (srt ts))))
    have r1 := dic_eq (new_at (s := s4) (o := .dct (DK (srt (srt ts))))) (g5 _ _ (G4 _ _ hn)) (srt_nd (srt_nd p.tb.nd)) da.srt.srt da
    rw [eqB_same (srt_nd (srt_nd p.tb.nd)) p.tb.nd da.srt.srt fun _ => getK_srt.trans getK_srt] at r1
    have sch5 := sch4.gp g5
    obtain ⟨W5, C5, hini5, _⟩ := sch5.ini
    have p2 := (props_ok b.toBP (k := j) (by omega) hini5).2.2
    have g6 := Gp.new (s4 ++ [.dct (DK (srt (srt ts)))]) (.dct (DK (srt (srt ks))))
    have r2 := dic_eq (new_at (s := s4 ++ [.dct (DK (srt (srt ts)))]) (o := .dct (DK (srt (srt ks))))) (g6 _ _ (g5 _ _ (G4 _ _ hm))) (srt_nd (srt_nd p.ky.nd)) db.srt.srt db
    rw [eqB_same (srt_nd (srt_nd p.ky.nd)) p.ky.nd db.srt.srt fun _ => getK_srt.trans getK_srt] at r2
    have sch6 := sch5.gp g6
    have G6 := (G4.trans g5).trans g6
    obtain ⟨s6, hs6⟩ : ∃ s6 : S, s6 = (s4 ++ [O.dct (DK (srt (srt ts)))]) ++ [.dct (DK (srt (srt ks)))] := ⟨_, rfl⟩
    -- what is due
    rw [← hs6] at sch6 G6
    obtain ⟨s7, g7, d1, d2⟩ := due_ok b (k := j) (by omega) (G6 _ _ hq) (G6 _ _ hl) hx p
    have sch7 := sch6.gp g7
    have G7 := G6.trans g7
    obtain ⟨l8, s8, g8, n8, e8⟩ := nonwhole_names b.toBW (k := j) (by omega) (τ := [some (.ref i), some (.ref t), some (.ref m), some (.ref q), some (.ref l), some (.ref s.length), some (.ref s1.length), some (.ref v), some .non, some (.bl false), none, some (.ref s6.length), none, none]) (v := 13) (iq := 11) (it := 1) (im := 2) (own := "_law_name") (by simp) (by decide) (by decide) (by decide) rfl rfl rfl (G7 _ _ hn) (G7 _ _ hm) d2 pd
    have sch8 := sch7.gp g8
    obtain ⟨W8, C8, hini8, _⟩ := sch8.ini
    have p3 := (props_ok b.toBP (k := j) (by omega) hini8).1
    have g9 := Gp.new s8 (.dct (DK (srt (uncL ss xs))))
    have r3 := dic_eq (new_at (s := s8) (o := .dct (DK (srt (uncL ss xs))))) (g9 _ _ (g8 _ _ d2)) (srt_nd pu.nd) pu.dat.2.2.srt pd.dat.2.2
    rw [eqB_same (srt_nd pu.nd) pd.nd pu.dat.2.2.srt fun _ => getK_srt.trans (getK_unc.trans getK_due.symm)] at r3
    have sch9 := sch8.gp g9
    obtain ⟨kk, m1, m2, m3, m4⟩ := b.hm2
    obtain ⟨W9, C9, ⟨f1, f2, f3, f4, f5, _, e09, _⟩, _⟩ := sch9.ini
    obtain ⟨s10, g10, n10, l10⟩ := capped_ok b.toBC (k := j) (by omega) sch9 (by have := pu.s8; omega) (fun y d e => by
      obtain ⟨t, g, c, w, e1, _⟩ := serv_shape (pu.srv y d e)
      exact ⟨_, e1⟩)
    rw [capN_due] at l10
    have r4 := eq_strs (s := s10) (ys := capN ts ks (dueL ss xs)) (fun y hy => names_asc pd.aS y (List.mem_filter.mp hy).1) l10 (g10 _ _ (g9 _ _ n8))
    have mc := mc_of (k := j) ⟨kk, m1, m2⟩ e09 rfl
    refine ⟨s10, G7.trans (g8.trans (g9.trans g10)), call_rt b.h310 (τ := [some (.ref i), some (.ref t), some (.ref m), some (.ref q), some (.ref l), none, none, none, none, none, none, none, none, none]) rfl rfl (start ?_)⟩
    refine (exs_nx u1).trans ((exs_skip (ne_f rfl rfl q1)).trans ((exs_skip (c2 em)).trans ((exs_skip (s' := s6) ?_).trans ?_)))
    · rw [hs6]
      refine (or_f (s1 := s4) rfl).trans ((or_f (ne_f (s1 := s4 ++ [.dct (DK (srt (srt ts)))]) (s2 := s4 ++ [.dct (DK (srt (srt ts)))]) ?_ rfl r1)).trans (ne_f ?_ rfl r2))
      · simp only [evE, ev, plainT, List.getElem?_cons_zero, List.getElem?_cons_succ, R.bind_ok, p1]
      · simp only [evE, ev, plainT, List.getElem?_cons_zero, List.getElem?_cons_succ, R.bind_ok, p2]
    refine (exs_asg (d := .ref s6.length) (s' := s7) ?_).trans ?_
    · simp only [evE, ev, evs, plainT, List.getElem?_cons_zero, List.getElem?_cons_succ, R.bind_ok, d1]
    refine (exs_asg e8).trans (exs_ret ?_)
    simp only [evE, ev, evs, plainT, asB, List.set_cons_zero, List.set_cons_succ, List.getElem?_cons_zero, List.getElem?_cons_succ, R.bind_ok, p3, cmpD, r3, if_true, mc, n10, r4]
end
end SL

set_option Elab.async false
set_option linter.all false
set_option maxRecDepth 100000
set_option autoImplicit false
set_option maxHeartbeats 1000000
/-! SNg: the parts of the law of equal schemas. -/
namespace SL
open PySem L2 G
theorem rev_nd {a : List (Str × D)} (h : (a.map (·.1)).Nodup) : (a.reverse.map (·.1)).Nodup := by rw [List.map_reverse]; exact (List.reverse_perm _).nodup_iff.mpr h
section
variable {ts ks ss : List (Str × D)}
theorem Pt3.rev (h : Pt3 ts ks ss) : Pt3 ts.reverse ks.reverse ss.reverse := by
  refine ⟨⟨rev_nd h.tb.nd, fun p hp => h.tb.all p (List.mem_reverse.mp hp)⟩, ⟨rev_nd h.ky.nd, fun p hp => ?_⟩, rev_nd h.nd, fun p hp => ?_, by rw [List.length_reverse]; exact h.t1, by rw [List.length_reverse]; exact h.t5, by rw [List.length_reverse]; exact h.k9, by rw [List.length_reverse]; exact h.s1, by rw [List.length_reverse]; exact h.s8⟩
  · obtain ⟨w, h1, h2⟩ := h.ky.all p (List.mem_reverse.mp hp)
    exact ⟨w, by rw [getK_rev h.tb.nd]; exact h1, h2⟩
  · obtain ⟨h1, h2⟩ := h.sv p (List.mem_reverse.mp hp)
    refine ⟨h1, ?_⟩
    obtain ⟨t, g, c, w, e, t1, t2, t3⟩ := serv_shape h2
    rw [e]
    exact serv_mk (h.tb.at t1).1 (by rw [getK_rev h.tb.nd]; exact t1) t2 t3
/-- all that the law holds of the parts and their schema -/
structure Wd (s : S) (n b0 i t m q : Nat) (ts ks ss : List (Str × D)) : Prop where
  pool : PoolAt n s
  sch : Sch s b0 i ts ks ss
  ni : n < i
  ib : i < b0
  hn : s[t]? = some (.dct (DK ts))
  hm : s[m]? = some (.dct (DK ks))
  hq : s[q]? = some (.dct (DK ss))
  p : Pt3 ts ks ss
  o : One ts ks ss
variable {s s' : S} {n b0 i t m q : Nat}
theorem Wd.gd (h : Wd s n b0 i t m q ts ks ss) (g : Gd n [] s s') : Wd s' n b0 i t m q ts ks ss :=
  ⟨g.pool, h.sch.low fun j o hj e => g.at (by have := h.ni; have := h.ib; omega) e, h.ni, h.ib, g.at (h.pool.ne_dct h.hn) h.hn, g.at (h.pool.ne_dct h.hm) h.hm, g.at (h.pool.ne_dct h.hq) h.hq, h.p, h.o⟩
theorem Wd.gp (h : Wd s n b0 i t m q ts ks ss) (g : Gp s s') : Wd s' n b0 i t m q ts ks ss := h.gd (.of_gp h.pool g)
end
section
variable {Γ : Ga} {s : S} {sc : D} {n b0 i t m q a c e : Nat} {r u : Int} {ts ks ss ts2 ks2 ss2 : List (Str × D)}
theorem schema_init' (b : BP Γ) {k : Nat} : initF (clF Γ k) "Schema" = some 76 := by
  obtain ⟨c, h1, _, h2⟩ := b.hc
  have h1 : (clF Γ k).cls "Schema" = some c := h1
  simp only [initF, h1, Option.bind_some, h2]
theorem may_change (b : BE Γ) {k : Nat} (hk : 4 ≤ k) (p : PoolAt n s) (ha : s[a]? = some (.dct (DK ts2))) (hc : s[c]? = some (.dct (DK ks2))) (he : s[e]? = some (.dct (DK ss2))) (ac : a ≠ c) (ae : a ≠ e) (ce : c ≠ e) (h : Pt3 ts2 ks2 ss2) (k9 : ks2.length < 20) :
    ∃ s' ts3 ks3 ss3, ex (clF Γ k) (.ite (.cmp .eq (.var 2) (.cst (.int 1))) (.cons (.expr (.call 133 (.cons (.var 1) (.cons (.var 5) (.cons (.var 6) (.cons (.var 7) .nil)))))) .nil) (.nil)) [some sc, some (.ref n), some (.int r), some (.int u), some (.ref i), some (.ref a), some (.ref c), some (.ref e), none, none, some (.ref t), some (.ref m), some (.ref q), none, none, none] s = .nx [some sc, some (.ref n), some (.int r), some (.int u), some (.ref i), some (.ref a), some (.ref c), some (.ref e), none, none, some (.ref t), some (.ref m), some (.ref q), none, none, none] s' ∧
      Gd n [a, c, e] s s' ∧ s'[a]? = some (.dct (DK ts3)) ∧ s'[c]? = some (.dct (DK ks3)) ∧ s'[e]? = some (.dct (DK ss3)) ∧ Pt3 ts3 ks3 ss3 := by
  by_cases hr : r = 1
  · obtain ⟨s', ts3, ks3, ss3, h1, h2, h3, h4, h5, h6⟩ := changed_ok b hk p ha hc he ac ae ce h k9
    refine ⟨s', ts3, ks3, ss3, (ite_t (num_is rfl (by simp [hr]))).trans ((exs_expr (d := .non) (s' := s') ?_).trans rfl), h2, h3, h4, h5, h6⟩
    simp only [evE, ev, evs, plainT, List.getElem?_cons_zero, List.getElem?_cons_succ, R.bind_ok, h1]
  · refine ⟨s, ts2, ks2, ss2, (ite_f (num_is rfl (by simp [hr]))).trans rfl, ?_, ha, hc, he, h⟩
    exact (Gd.refl p).wide
theorem or_ff {cl : CL} {x y : Ex} {τ : Fr} {s s1 s2 : S} (h : evT cl x τ s = .ok false s1) (h2 : evT cl y τ s1 = .ok false s2) : evT cl (.or x y) τ s = .ok false s2 := (or_f h).trans h2
theorem eq_v {cl : CL} {x y : Ex} {τ : Fr} {s s1 s2 : S} {d d' : D} {r : Bool} (h1 : evE cl x τ s = .ok d s1) (h2 : evE cl y τ s1 = .ok d' s2) (h3 : eqD d d' s2 = .ok r s2) : evE cl (.cmp .eq x y) τ s = .ok (.bl r) s2 := by
  have h1 : (ev cl x).1 τ s = .ok d s1 := h1
  have h2 : (ev cl y).1 τ s1 = .ok d' s2 := h2
  simp only [evE, ev, asB, h1, h2, R.bind_ok, cmpD, h3]
theorem eq_bl (x : Bool) : eqD (.bl x) (.bl x) s = .ok true s := eqD_self (k := 0) (by decide) (data_fl (d := .bl x) trivial)
theorem may_fit (b : BE Γ) {k : Nat} (hk : 6 ≤ k) (h : Wd s n b0 i t m q ts ks ss) (ha : s[a]? = some (.dct (DK ts2))) (hc : s[c]? = some (.dct (DK ks2))) (he : s[e]? = some (.dct (DK ss2))) (p2 : Pt3 ts2 ks2 ss2) :
    ∃ s' w3 w4, ex (clF Γ k) (.ite (.call 163 (.cons (.var 5) (.cons (.var 6) (.cons (.var 7) .nil)))) (.cons (.asg (.loc (.var 13)) (.mk "Schema" (.cons (.var 5) (.cons (.var 6) (.cons (.var 7) .nil)))))
    (.cons (.asg (.loc (.var 14)) (.and (.cmp .eq (.var 5) (.var 10)) (.and (.cmp .eq (.var 6) (.var 11)) (.cmp .eq (.var 7) (.var 12)))))
    (.cons (.ite (.or (.cmp .ne (.oeq (.var 4) (.var 13)) (.var 14)) (.or (.cmp .ne (.oeq (.var 13) (.var 4)) (.var 14)) (.not (.oeq (.var 4) (.mk "Schema" (.cons (.var 10) (.cons (.var 11) (.cons (.var 12) .nil)))))))) (.cons (.ret (.cst (.bl false))) .nil) (.nil)) .nil))) (.nil)) [some sc, some (.ref n), some (.int r), some (.int u), some (.ref i), some (.ref a), some (.ref c), some (.ref e), none, none, some (.ref t), some (.ref m), some (.ref q), none, none, none] s = .nx [some sc, some (.ref n), some (.int r), some (.int u), some (.ref i), some (.ref a), some (.ref c), some (.ref e), none, none, some (.ref t), some (.ref m), some (.ref q), w3, w4, none] s' ∧ Gp s s' := by
  obtain ⟨s1, g1, f1⟩ := fits_ok b (k := k) (by omega) ha hc he p2
  have c1 : evT (clF Γ k) (.call 163 (.cons (.var 5) (.cons (.var 6) (.cons (.var 7) .nil)))) [some sc, some (.ref n), some (.int r), some (.int u), some (.ref i), some (.ref a), some (.ref c), some (.ref e), none, none, some (.ref t), some (.ref m), some (.ref q), none, none, none] s = .ok (fitL ts2 ks2 ss2 (ss2.map (·.1)) []) s1 := by
    simp only [evT, ev, evs, plainT, asB, List.getElem?_cons_zero, List.getElem?_cons_succ, R.bind_ok, f1, truD]
  cases hf : fitL ts2 ks2 ss2 (ss2.map (·.1)) [] with
  | false =>
    rw [hf] at c1
    exact ⟨s1, none, none, (ite_f c1).trans rfl, g1⟩
  | true =>
    rw [hf] at c1
    have o2 := fit_one p2 hf
    have h1 := h.gp g1
    obtain ⟨s2, g2, mk2, sch2⟩ := mk_sch b.toBP (k := k) (by omega) (g1 _ _ ha) (g1 _ _ hc) (g1 _ _ he) p2 o2
    have h2 := h1.gp g2
    have G2 := g1.trans g2
    obtain ⟨x1, x2, x3⟩ := p2.dat
    obtain ⟨y1, y2, y3⟩ := h.p.dat
    have q1 := dic_eq (G2 _ _ ha) h2.hn p2.tb.nd x1 y1
    have q2 := dic_eq (G2 _ _ hc) h2.hm p2.ky.nd x2 y2
    have q3 := dic_eq (G2 _ _ he) h2.hq p2.nd x3 y3
    have sm : sameB ts ks ss ts2 ks2 ss2 = sameB ts2 ks2 ss2 ts ks ss := by
      unfold sameB
      rw [eqB_comm h.p.tb.nd p2.tb.nd, eqB_comm h.p.ky.nd p2.ky.nd, eqB_comm h.p.nd p2.nd]
    have w1 := oeq_ok b (k := k) (by omega) h2.sch sch2 h.p p2
    have w2 := oeq_ok b (k := k) (by omega) sch2 h2.sch p2 h.p
    rw [sm] at w1
    obtain ⟨s3, g3, mk3, sch3⟩ := mk_sch b.toBP (k := k) (by omega) h2.hn h2.hm h2.hq h.p h.o
    have h3 := h2.gp g3
    have w3 := oeq_ok b (k := k) (by omega) h3.sch sch3 h.p h.p
    have same : sameB ts ks ss ts ks ss = true := by
      unfold sameB
      rw [eqB_same h.p.tb.nd h.p.tb.nd y1 fun _ => rfl, eqB_same h.p.ky.nd h.p.ky.nd y2 fun _ => rfl, eqB_same h.p.nd h.p.nd y3 fun _ => rfl]
      rfl
    rw [same] at w3
    have iniF := schema_init' b.toBP (k := k)
    refine ⟨s3, some (.ref s1.length), some (.bl (sameB ts2 ks2 ss2 ts ks ss)), (ite_t c1).trans ?_, G2.trans g3⟩
    refine (exs_asg (d := .ref s1.length) (s' := s2) ?_).trans ?_
    · simp only [evE, ev, evs, plainT, List.getElem?_cons_zero, List.getElem?_cons_succ, R.bind_ok, iniF, mk2]
    refine (exs_asg (d := .bl (sameB ts2 ks2 ss2 ts ks ss)) (s' := s2) ?_).trans ?_
    · simp only [evE, ev, evs, plainT, asB, List.set_cons_zero, List.set_cons_succ, List.getElem?_cons_zero, List.getElem?_cons_succ, R.bind_ok, cmpD, q1, sameB]
      cases eqB ts2 ts with
      | false => rfl
      | true =>
        simp only [if_true, q2, R.bind_ok, Bool.true_and]
        cases eqB ks2 ks with
        | false => rfl
        | true => simp only [if_true, q3, R.bind_ok, Bool.true_and]
    refine (exs_skip (s' := s3) ?_).trans rfl
    refine or_ff (s1 := s2) (ne_f (x := .bl (sameB ts2 ks2 ss2 ts ks ss)) (s1 := s2) ?_ rfl (eq_bl _)) (or_ff (s1 := s2) (ne_f (x := .bl (sameB ts2 ks2 ss2 ts ks ss)) (s1 := s2) ?_ rfl (eq_bl _)) ?_)
    · simp only [evE, ev, plainT, asB, List.set_cons_zero, List.set_cons_succ, List.getElem?_cons_zero, List.getElem?_cons_succ, R.bind_ok, w1]
    · simp only [evE, ev, plainT, asB, List.set_cons_zero, List.set_cons_succ, List.getElem?_cons_zero, List.getElem?_cons_succ, R.bind_ok, w2]
    · simp only [evT, ev, evs, plainT, asB, List.set_cons_zero, List.set_cons_succ, List.getElem?_cons_zero, List.getElem?_cons_succ, R.bind_ok, iniF, mk3, w3, truD, Bool.not_true]
/-- some of the names -/
theorem some_names (b : BE Γ) {k : Nat} (hk : 5 ≤ k) (h : Wd s n b0 i t m q ts ks ss) {w3 w4 : Option D} :
    ∃ (l : Nat) (s' : S) (xs : List Str), evE (clF Γ k) (.lc (.var 15) (.var 15) .seq (.cons (.blt .list (.cons (.var 12) .nil)) .nil) (.cmp .eq (.call 148 (.cons (.var 1) (.cons (.cst (.int 2)) .nil))) (.cst (.int 0))) [("_law_name", 15)]) [some sc, some (.ref n), some (.int r), some (.int u), some (.ref i), some (.ref a), some (.ref c), some (.ref e), none, none, some (.ref t), some (.ref m), some (.ref q), w3, w4, none] s = .ok (.ref l) s' ∧
      Gd n [] s s' ∧ s'[l]? = some (.lst (xs.map .str)) ∧ (∀ x ∈ xs, Asc x) ∧ xs.length ≤ 8 ∧ s.length ≤ l := by
  have s8 := h.p.s8
  have ll := list_dct h.hq
  have g1 := Gd.new h.pool (.lst ((ss.map (·.1)).map .str))
  have l1 := new_at (s := s) (o := .lst ((ss.map (·.1)).map .str))
  have ln : s.length ≠ n := h.pool.ne (Nat.le_refl _)
  obtain ⟨rr, s2, lc, ⟨xs, hxs, hmem, hlen⟩, g2⟩ := lcS_inv (ok := (Src.lst s.length ((ss.map (·.1)).map .str)).ok) (items := (ss.map (·.1)).map .str) (s := s ++ [.lst ((ss.map (·.1)).map .str)]) (g := lcB (clF Γ k) [some sc, some (.ref n), some (.int r), some (.int u), some (.ref i), some (.ref a), some (.ref c), some (.ref e), none, none, some (.ref t), some (.ref m), some (.ref q), w3, w4, none] [15] (.var 15) (.cmp .eq (.call 148 (.cons (.var 1) (.cons (.cst (.int 2)) .nil))) (.cst (.int 0))) (.var 15))
    (fun j rr s' => (∃ xs : List Str, rr = xs.map .str ∧ (∀ x ∈ xs, x ∈ ss.map (·.1)) ∧ xs.length ≤ j) ∧ Gd n [] (s ++ [.lst ((ss.map (·.1)).map .str)]) s') (fun _ _ _ ⟨_, g⟩ => lstAt_of (g.at ln l1)) (fun j d rr s' hi ⟨⟨xs, hr, hm, hl⟩, g⟩ => by
      rw [List.getElem?_map, Option.map_eq_some_iff] at hi
      obtain ⟨y, hy, rfl⟩ := hi
      obtain ⟨v, s4, v1, v2, v3, v4⟩ := draw b.toBD (k := k) (by omega) (m := 2) g.pool (by decide) (by decide)
      have e : evT (clF Γ k) (.cmp .eq (.call 148 (.cons (.var 1) (.cons (.cst (.int 2)) .nil))) (.cst (.int 0))) [some sc, some (.ref n), some (.int r), some (.int u), some (.ref i), some (.ref a), some (.ref c), some (.ref e), none, none, some (.ref t), some (.ref m), some (.ref q), w3, w4, some (.str y)] s' = .ok (v == 0) s4 := by
        simp only [evT, ev, evs, plainT, asB, List.getElem?_cons_zero, List.getElem?_cons_succ, R.bind_ok, Cst.d, v1, eqI]
      cases hv : v == 0 with
      | true =>
        rw [hv] at e
        refine ⟨some (.str y), s4, lcB_if rfl e rfl, ⟨xs ++ [y], by rw [hr]; simp, fun x hx => ?_, by simp; omega⟩, g.trans v4⟩
        rcases List.mem_append.mp hx with hx | hx
        · exact hm x hx
        · simp at hx; subst hx; exact List.mem_of_getElem? hy
      | false =>
        rw [hv] at e
        exact ⟨none, s4, lcB_no rfl e, ⟨xs, by rw [hr]; simp, hm, by omega⟩, g.trans v4⟩) ⟨⟨[], rfl, by simp, by simp⟩, Gd.refl g1.pool⟩
  rw [List.length_map, List.length_map] at hlen
  subst hxs
  have g3 := Gd.new g2.pool (.lst (xs.map .str))
  refine ⟨s2.length, s2 ++ [.lst (xs.map .str)], xs, ?_, (g1.trans g2).trans g3, new_at, fun x hx => ?_, by omega, ?_⟩
  · exact ev_lc (s1 := s ++ [.lst ((ss.map (·.1)).map .str)]) (s2 := s2) (ds := [.ref s.length]) (src := .lst s.length ((ss.map (·.1)).map .str)) (by
      simp only [evs, ev, plainT, List.getElem?_cons_zero, List.getElem?_cons_succ, R.bind_ok, ll]) (by simp only [srcOf, lstAt_of l1]) (by
      show ((ss.map (·.1)).map D.str).length < sizeLine
      rw [List.length_map, List.length_map, sizeLine_eq]; omega) lc
  · obtain ⟨p, hp, rfl⟩ := List.mem_map.mp (hmem x hx)
    exact h.p.aS p hp
  · have := (g1.trans g2).len h.pool
    exact this
/-- and perhaps one that is not known -/
theorem may_insert (b : BE Γ) {k : Nat} (hk : 5 ≤ k) (p : PoolAt n s) {l : Nat} {xs : List Str} (hl : s[l]? = some (.lst (xs.map .str))) (ln : l ≠ n) (hx : ∀ x ∈ xs, Asc x) (h8 : xs.length ≤ 8) {w3 w4 : Option D} :
    ∃ (s' : S) (ys : List Str), ex (clF Γ k) (.ite (.cmp .eq (.var 3) (.cst (.int 0))) (.cons (.expr (.meth .insert (.var 8) (.cons (.call 148 (.cons (.var 1) (.cons (.bin .add (.blt .len (.cons (.var 8) .nil)) (.cst (.int 1))) .nil))) (.cons (.call 325 (.cons (.var 1) (.cons (.bin .add (.cst (.int 1)) (.call 148 (.cons (.var 1) (.cons (.cst (.int 8)) .nil)))) .nil))) .nil)))) .nil) (.nil)) [some sc, some (.ref n), some (.int r), some (.int u), some (.ref i), some (.ref a), some (.ref c), some (.ref e), some (.ref l), none, some (.ref t), some (.ref m), some (.ref q), w3, w4, none] s = .nx [some sc, some (.ref n), some (.int r), some (.int u), some (.ref i), some (.ref a), some (.ref c), some (.ref e), some (.ref l), none, some (.ref t), some (.ref m), some (.ref q), w3, w4, none] s' ∧
      Gd n [l] s s' ∧ s'[l]? = some (.lst (ys.map .str)) ∧ (∀ x ∈ ys, Asc x) ∧ ys.length ≤ 9 := by
  by_cases hu : u = 0
  · have v0 := len_lst hl
    rw [List.length_map] at v0
    obtain ⟨v, s1, v1, v2, v3, v4⟩ := draw b.toBD (k := k) (by omega) (m := (xs.length : Nat) + 1) p (by omega) (by omega)
    obtain ⟨w, s2, w1, w2, w3', w4'⟩ := draw b.toBD (k := k) (by omega) (m := 8) v4.pool (by decide) (by decide)
    obtain ⟨x, s3, x1, x2, x3, x4, _⟩ := wo_ b.toBD (k := k) (by omega) s2 n (1 + w) w4'.pool (by omega) (by omega)
    have G3 := (v4.trans w4').trans (Gd.of_gr x4)
    have l3 := G3.at ln hl
    have hms : mSel .insert (.ref l) s = some .linsert := by simp only [mSel, hl]; rfl
    have ins : mtD .linsert (.ref l) [.int v, .str x] s3 = .ok .non (s3.set l (.lst ((xs.take v.toNat ++ [x] ++ xs.drop v.toNat).map .str))) := by
      simp only [mtD, l3]
      rw [if_pos ⟨by rw [List.length_map, sizeLine_eq]; omega, by omega, by omega⟩]
      simp [List.map_take, List.map_drop]
    refine ⟨s3.set l (.lst ((xs.take v.toNat ++ [x] ++ xs.drop v.toNat).map .str)), _, (ite_t (num_is rfl (by simp [hu]))).trans ((exs_expr (d := .non) (s' := s3.set l (.lst ((xs.take v.toNat ++ [x] ++ xs.drop v.toNat).map .str))) ?_).trans rfl), G3.wide.trans (Gd.set G3.pool ln (by simp)), set_get (List.getElem?_eq_some_iff.mp l3).1, fun y hy => ?_, ?_⟩
    · simp only [evE, ev, evs, plainT, List.getElem?_cons_zero, List.getElem?_cons_succ, R.bind_ok, hms, v0, Cst.d, addI, v1, w1, x1, ins]
    · simp only [List.mem_append, List.mem_singleton] at hy
      rcases hy with (hy | rfl) | hy
      · exact hx y (List.mem_of_mem_take hy)
      · exact x2.asc
      · exact hx y (List.mem_of_mem_drop hy)
    · simp; omega
  · exact ⟨s, xs, (ite_f (num_is rfl (by simp [hu]))).trans rfl, (Gd.refl p).wide, hl, hx, by omega⟩
end
end SL

set_option Elab.async false
set_option linter.all false
set_option maxRecDepth 100000
set_option autoImplicit false
set_option maxHeartbeats 1000000
/-! SNh: the last parts of the law of equal schemas. -/
namespace SL
open PySem L2 G
section
variable {Γ : Ga} {s : S} {sc : D} {n b0 i t m q a c e : Nat} {r u : Int} {ts ks ss ts2 ks2 ss2 : List (Str × D)}
theorem capN_asc (h : Pt3 ts ks ss) : ∀ y ∈ capN ts ks ss, Asc y := fun y hy => names_asc h.aS y (List.mem_filter.mp hy).1
theorem capN_len : (capN ts ks ss).length ≤ ss.length := by
  unfold capN
  exact Nat.le_trans (List.length_filter_le _ _) (by rw [sortT_len, List.length_map]; omega)
theorem Pt3.tup (h : Pt3 ts ks ss) : ∀ y d, getK ss y = some d → ∃ l, d = .tup l := fun y d e => by
  obtain ⟨t, g, c, w, e1, _⟩ := serv_shape (h.srv y d e)
  exact ⟨_, e1⟩
theorem three_lists (b : BE Γ) {k : Nat} (hk : 7 ≤ k) (h : Wd s n b0 i t m q ts ks ss) {l : Nat} {xs : List Str} (hl : s[l]? = some (.lst (xs.map .str))) (hx : ∀ x ∈ xs, Asc x) (h9 : xs.length ≤ 9) {w3 w4 : Option D} :
    ∃ s' w9, ex (clF Γ k) (.for_ (.var 9) .seq (.cons (.lst (.cons (.var 8) (.cons (.mc "capped_names" (.var 4) .nil) (.cons (.lst .nil) .nil)))) .nil) (.cons (.ite (.not (.call 310 (.cons (.var 4) (.cons (.var 10) (.cons (.var 11) (.cons (.var 12) (.cons (.var 9) .nil))))))) (.cons (.ret (.cst (.bl false))) .nil) (.nil)) .nil)) [some sc, some (.ref n), some (.int r), some (.int u), some (.ref i), some (.ref a), some (.ref c), some (.ref e), some (.ref l), none, some (.ref t), some (.ref m), some (.ref q), w3, w4, none] s = .nx [some sc, some (.ref n), some (.int r), some (.int u), some (.ref i), some (.ref a), some (.ref c), some (.ref e), some (.ref l), w9, some (.ref t), some (.ref m), some (.ref q), w3, w4, none] s' ∧ Gp s s' := by
  obtain ⟨kk, m1, m2, m3, m4⟩ := b.hm2
  obtain ⟨W, C, ⟨f1, f2, f3, f4, f5, _, e0, _⟩, _⟩ := h.sch.ini
  have s8 := h.p.s8
  obtain ⟨s1, g1, n1, l1⟩ := capped_ok b.toBC (k := k) (by omega) h.sch (by omega) h.p.tup
  have mc := mc_of (k := k) ⟨kk, m1, m2⟩ e0 rfl
  have g2 := Gp.new s1 (.lst [])
  have g3 := Gp.new (s1 ++ [.lst []]) (.lst [.ref l, .ref s.length, .ref s1.length])
  obtain ⟨s3, hs3⟩ : ∃ s3 : S, s3 = (s1 ++ [.lst []]) ++ [.lst [.ref l, .ref s.length, .ref s1.length]] := ⟨_, rfl⟩
  have G3 : Gp s s3 := by rw [hs3]; exact (g1.trans g2).trans g3
  have at3 : s3[(s1 ++ [O.lst []]).length]? = some (.lst [.ref l, .ref s.length, .ref s1.length]) := by rw [hs3]; exact new_at
  have cap3 : s3[s.length]? = some (.lst ((capN ts ks ss).map .str)) := by rw [hs3]; exact g3 _ _ (g2 _ _ l1)
  have nil3 : s3[s1.length]? = some (.lst (([] : List Str).map .str)) := by rw [hs3]; exact g3 _ _ new_at
  have ev1 : evs (clF Γ k) (.cons (.lst (.cons (.var 8) (.cons (.mc "capped_names" (.var 4) .nil) (.cons (.lst .nil) .nil)))) .nil) [some sc, some (.ref n), some (.int r), some (.int u), some (.ref i), some (.ref a), some (.ref c), some (.ref e), some (.ref l), none, some (.ref t), some (.ref m), some (.ref q), w3, w4, none] s = .ok [.ref (s1 ++ [O.lst []]).length] s3 := by
    rw [hs3]
    simp only [evs, ev, plainT, List.getElem?_cons_zero, List.getElem?_cons_succ, R.bind_ok, mc, n1, new]
  obtain ⟨τ', s', lp, ⟨w9, rfl⟩, g⟩ := forS_inv (ok := (Src.lst (s1 ++ [O.lst []]).length [.ref l, .ref s.length, .ref s1.length]).ok) (g := forB (clF Γ k) (.var 9) (.cons (.ite (.not (.call 310 (.cons (.var 4) (.cons (.var 10) (.cons (.var 11) (.cons (.var 12) (.cons (.var 9) .nil))))))) (.cons (.ret (.cst (.bl false))) .nil) (.nil)) .nil)) (items := [.ref l, .ref s.length, .ref s1.length]) (τ := [some sc, some (.ref n), some (.int r), some (.int u), some (.ref i), some (.ref a), some (.ref c), some (.ref e), some (.ref l), none, some (.ref t), some (.ref m), some (.ref q), w3, w4, none]) (s := s3)
    (fun _ τ s' => (∃ w9, τ = [some sc, some (.ref n), some (.int r), some (.int u), some (.ref i), some (.ref a), some (.ref c), some (.ref e), some (.ref l), w9, some (.ref t), some (.ref m), some (.ref q), w3, w4, none]) ∧ Gp s3 s') (fun _ _ _ ⟨_, g⟩ => lstAt_of (g _ _ at3)) (fun j d τ s' hi ⟨⟨w9, hτ⟩, g⟩ => by
      subst hτ
      have G := G3.trans g
      have hh := h.gp G
      obtain ⟨o, ys, rfl, ho, hy, hyl⟩ : ∃ (o : Nat) (ys : List Str), d = .ref o ∧ s'[o]? = some (.lst (ys.map .str)) ∧ (∀ y ∈ ys, Asc y) ∧ ys.length < 64 := by
        have := List.mem_of_getElem? hi
        simp only [List.mem_cons, List.not_mem_nil, or_false] at this
        rcases this with rfl | rfl | rfl
        · exact ⟨l, xs, rfl, G _ _ hl, hx, by omega⟩
        · exact ⟨s.length, _, rfl, g _ _ cap3, capN_asc h.p, by have := capN_len (ts := ts) (ks := ks) (ss := ss); omega⟩
        · exact ⟨s1.length, [], rfl, g _ _ nil3, by simp, by simp⟩
      obtain ⟨s4, g4, e4⟩ := uncapped_holds b hk hh.sch hh.hn hh.hm hh.hq h.p h.o ho hy hyl
      refine ⟨_, s4, ?_, ⟨some (.ref o), rfl⟩, g.trans g4⟩
      rw [forB_var]
      refine (exs_skip (s' := s4) ?_).trans rfl
      simp only [evT, ev, evs, plainT, asB, List.set_cons_zero, List.set_cons_succ, List.getElem?_cons_zero, List.getElem?_cons_succ, R.bind_ok, e4, truD]
      rfl) ⟨⟨none, rfl⟩, Gp.refl s3⟩
  exact ⟨s', w9, (ex_for (src := .lst (s1 ++ [O.lst []]).length [.ref l, .ref s.length, .ref s1.length]) ev1 (by simp only [srcOf, lstAt_of at3])).trans lp, G3.trans g⟩
theorem all_known : unkF ss (ss.map (·.1)) = none := by
  unfold unkF
  rw [List.find?_eq_none]
  intro x hx
  obtain ⟨d, hd, _⟩ := getK_mem hx
  simp [hd]
theorem none_capped (h : Pt3 ts ks ss) : capN (srt ts) (srt ks) (uncL ss (ss.map (·.1))) = [] := by
  rw [capN_due]
  unfold capN
  rw [List.filter_eq_nil_iff]
  intro y hy
  rw [dueL_keys] at hy
  have hy := mem_sortT.mp hy
  obtain ⟨d, hd, _⟩ := getK_mem hy
  obtain ⟨t, g, c, w, rfl, _⟩ := serv_shape (h.srv _ _ hd)
  rw [getK_due, hd]
  simp only [Option.map_some, Option.getD_some, uncF, if_pos hy, uncD, wholeB, D.isNon, Bool.true_or, Bool.not_true, Bool.false_eq_true, not_false_eq_true]
theorem law_end (b : BE Γ) {k : Nat} (hk : 6 ≤ k) (h : Wd s n b0 i t m q ts ks ss) {v8 v9 w3 w4 : Option D} :
    ∃ s', evE (clF Γ k) (.and (.cmp .eq (.fld (.var 4) "services") (.var 12)) (.cmp .eq (.mc "capped_names" (.mc "uncapped" (.var 4) (.cons (.blt .list (.cons (.var 12) .nil)) .nil)) .nil) (.lst .nil))) [some sc, some (.ref n), some (.int r), some (.int u), some (.ref i), some (.ref a), some (.ref c), some (.ref e), v8, v9, some (.ref t), some (.ref m), some (.ref q), w3, w4, none] s = .ok (.bl true) s' := by
  obtain ⟨kk, m1, m2, m3, m4⟩ := b.hm2
  have s8 := h.p.s8
  obtain ⟨_, _, d3⟩ := h.p.dat
  obtain ⟨W, C, ini, _⟩ := h.sch.ini
  have p1 := (props_ok b.toBP (k := k) (by omega) ini).1
  have g1 := Gp.new s (.dct (DK (srt ss)))
  have h1 := h.gp g1
  have q1 := dic_eq (new_at (s := s) (o := .dct (DK (srt ss)))) h1.hq (srt_nd h.p.nd) d3.srt d3
  rw [eqB_same (srt_nd h.p.nd) h.p.nd d3.srt fun _ => getK_srt] at q1
  have ll := list_dct h1.hq
  have g2 := Gp.new (s ++ [.dct (DK (srt ss))]) (.lst ((ss.map (·.1)).map .str))
  have h2 := h1.gp g2
  obtain ⟨s3, g3, un⟩ := uncapped_ok b hk h2.sch h.p h.o (l := (s ++ [O.dct (DK (srt ss))]).length) (xs := ss.map (·.1)) new_at (fun x hx => by
    obtain ⟨p, hp, rfl⟩ := List.mem_map.mp hx
    exact h.p.aS p hp)
  rw [all_known] at un
  obtain ⟨j, b1, u1, sch3⟩ := un
  have pu := h.p.unc (ss.map (·.1))
  obtain ⟨W1, C1, ⟨f1, f2, f3, f4, f5, _, e0, _⟩, _⟩ := sch3.ini
  obtain ⟨W2, C2, ⟨f1', f2', f3', f4', f5', _, e0', _⟩, _⟩ := h1.sch.ini
  obtain ⟨s4, g4, n4, l4⟩ := capped_ok b.toBC (k := k) (by omega) sch3 (by have := pu.s8; omega) pu.tup
  rw [none_capped h.p] at l4
  have mc1 := mc_of (k := k) ⟨kk, m1, m3⟩ e0' rfl
  have mc2 := mc_of (k := k) ⟨kk, m1, m2⟩ e0 rfl
  have g5 := Gp.new s4 (.lst [])
  have q2 := eq_nil (s := s4 ++ [.lst []]) (ds := ([] : List Str).map .str) (by simp) (g5 _ _ l4) (new_at (s := s4))
  refine ⟨s4 ++ [.lst []], ?_⟩
  simp only [evE, ev, evs, plainT, asB, List.getElem?_cons_zero, List.getElem?_cons_succ, R.bind_ok, p1, cmpD, q1, if_true, ll, mc1, u1, mc2, n4, new, q2]
  rfl
end
end SL

set_option Elab.async false
set_option linter.all false
set_option maxRecDepth 100000
set_option autoImplicit false
set_option maxHeartbeats 4000000
namespace K05
open PySem PySem.Spec PyProof.Rows L2 G
def top (i : Nat) : Stmt := PySem.Challenge.pw_cappedcalls_k05_schema_equal_and_uncappe.main.body.getD i (.Pass ⟨0, 0, 0, 0⟩)
def meth (i j : Nat) : Stmt := match top i with
  | .ClassDef _ _ _ b _ _ _ _ _ _ _ => b.getD j (.Pass ⟨0, 0, 0, 0⟩)
  | x => x
/-- 374: is_integer -/
def b374 : Cms := .cons (.ret (.and (.isi (.var 0) .int) (.not (.isi (.var 0) .bool)))) .nil
def f374 : Fn := ⟨1, 1, b374⟩
abbrev s374 : Stmt := top 7
def d374 : Df := ⟨374, "is_integer", "is_integer", ["thing"], ["thing"], s374, f374⟩
/-- 389: is_word -/
def b389 : Cms := .cons (.ite (.or (.not (.isi (.var 0) .str)) (.not (.cmp2 .le .le (.cst (.int 1)) (.blt .len (.cons (.var 0) .nil)) (.cst (.int 8))))) (.cons (.ret (.cst (.bl false))) .nil) (.nil))
    (.cons (.for_ (.var 1) .seq (.cons (.var 0) .nil) (.cons (.ite (.cmp .nin (.var 1) (.glob 5)) (.cons (.ret (.cst (.bl false))) .nil) (.nil)) .nil))
    (.cons (.ret (.cst (.bl true))) .nil))
def f389 : Fn := ⟨1, 2, b389⟩
abbrev s389 : Stmt := top 8
def d389 : Df := ⟨389, "is_word", "is_word", ["thing", "sign"], ["thing"], s389, f389⟩
/-- 371: is_columns -/
def b371 : Cms := .cons (.ite (.not (.isi (.var 0) .tuple)) (.cons (.ret (.cst (.bl false))) .nil) (.nil))
    (.cons (.asg (.loc (.var 2)) (.neg (.cst (.int 1))))
    (.cons (.for_ (.var 3) .seq (.cons (.var 0) .nil) (.cons (.ite (.or (.not (.call 374 (.cons (.var 3) .nil))) (.not (.cmp2 .lt .lt (.var 2) (.var 3) (.var 1)))) (.cons (.ret (.cst (.bl false))) .nil) (.nil))
    (.cons (.asg (.loc (.var 2)) (.var 3)) .nil)))
    (.cons (.ret (.cst (.bl true))) .nil)))
def f371 : Fn := ⟨2, 4, b371⟩
abbrev s371 : Stmt := top 9
def d371 : Df := ⟨371, "is_columns", "is_columns", ["thing", "width", "last", "column"], ["thing", "width"], s371, f371⟩
/-- 355: check_tables -/
def b355 : Cms := .cons (.ite (.not (.cmp2 .le .le (.cst (.int 1)) (.blt .len (.cons (.var 0) .nil)) (.cst (.int 5)))) (.cons (.rse "InvalidSchema" (.cons (.cst (.str "tables")) (.cons (.cst .non) .nil))) .nil) (.nil))
    (.cons (.for_ (.var 1) .seq (.cons (.blt .sorted (.cons (.blt .list (.cons (.var 0) .nil)) .nil)) .nil) (.cons (.asg (.loc (.var 2)) (.ix (.var 0) (.var 1)))
    (.cons (.ite (.or (.not (.call 389 (.cons (.var 1) .nil))) (.or (.not (.call 374 (.cons (.var 2) .nil))) (.not (.cmp2 .le .le (.cst (.int 1)) (.var 2) (.cst (.int 4)))))) (.cons (.rse "InvalidSchema" (.cons (.cst (.str "tables")) (.cons (.var 1) .nil))) .nil) (.nil)) .nil))) .nil)
def f355 : Fn := ⟨1, 3, b355⟩
abbrev s355 : Stmt := top 11
def d355 : Df := ⟨355, "check_tables", "check_tables", ["tables", "name", "width"], ["tables"], s355, f355⟩
/-- 349: check_keys -/
def b349 : Cms := .cons (.for_ (.var 2) .seq (.cons (.blt .sorted (.cons (.blt .list (.cons (.var 1) .nil)) .nil)) .nil) (.cons (.ite (.or (.cmp .nin (.var 2) (.var 0)) (.not (.call 371 (.cons (.ix (.var 1) (.var 2)) (.cons (.ix (.var 0) (.var 2)) .nil))))) (.cons (.rse "InvalidSchema" (.cons (.cst (.str "keys")) (.cons (.var 2) .nil))) .nil) (.nil))
    (.cons (.ite (.not (.cmp2 .le .lt (.cst (.int 1)) (.blt .len (.cons (.ix (.var 1) (.var 2)) .nil)) (.ix (.var 0) (.var 2)))) (.cons (.rse "InvalidSchema" (.cons (.cst (.str "keys")) (.cons (.var 2) .nil))) .nil) (.nil)) .nil))) .nil
def f349 : Fn := ⟨2, 3, b349⟩
abbrev s349 : Stmt := top 12
def d349 : Df := ⟨349, "check_keys", "check_keys", ["tables", "keys", "name"], ["tables", "keys"], s349, f349⟩
/-- 381: is_service -/
def b381 : Cms := .cons (.ite (.or (.not (.isi (.var 1) .tuple)) (.cmp .ne (.blt .len (.cons (.var 1) .nil)) (.cst (.int 3)))) (.cons (.ret (.cst (.bl false))) .nil) (.nil))
    (.cons (.asg (.loc (.tup [2, 3, 4])) (.var 1))
    (.cons (.ite (.or (.not (.call 389 (.cons (.var 2) .nil))) (.or (.cmp .nin (.var 2) (.var 0)) (.not (.call 371 (.cons (.var 3) (.cons (.ix (.var 0) (.var 2)) .nil)))))) (.cons (.ret (.cst (.bl false))) .nil) (.nil))
    (.cons (.ret (.or (.cmp .isn (.var 4) (.cst .non)) (.and (.call 374 (.cons (.var 4) .nil)) (.cmp2 .le .le (.cst (.int 1)) (.var 4) (.cst (.int 4)))))) .nil)))
def f381 : Fn := ⟨2, 5, b381⟩
abbrev s381 : Stmt := top 13
def d381 : Df := ⟨381, "is_service", "is_service", ["tables", "told", "table", "given", "cap"], ["tables", "told"], s381, f381⟩
/-- 354: check_services -/
def b354 : Cms := .cons (.ite (.not (.cmp2 .le .le (.cst (.int 1)) (.blt .len (.cons (.var 1) .nil)) (.cst (.int 8)))) (.cons (.rse "InvalidSchema" (.cons (.cst (.str "services")) (.cons (.cst .non) .nil))) .nil) (.nil))
    (.cons (.for_ (.var 2) .seq (.cons (.blt .sorted (.cons (.blt .list (.cons (.var 1) .nil)) .nil)) .nil) (.cons (.ite (.or (.not (.call 389 (.cons (.var 2) .nil))) (.not (.call 381 (.cons (.var 0) (.cons (.ix (.var 1) (.var 2)) .nil))))) (.cons (.rse "InvalidSchema" (.cons (.cst (.str "services")) (.cons (.var 2) .nil))) .nil) (.nil)) .nil)) .nil)
def f354 : Fn := ⟨2, 3, b354⟩
abbrev s354 : Stmt := top 14
def d354 : Df := ⟨354, "check_services", "check_services", ["tables", "services", "name"], ["tables", "services"], s354, f354⟩
/-- 429: returns_all -/
def b429 : Cms := .cons (.asg (.loc (.tup [4, 5, 6])) (.var 2))
    (.cons (.ite (.or (.cmp .isn (.var 6) (.cst .non)) (.cmp .eq (.blt .len (.cons (.var 5) .nil)) (.ix (.var 0) (.var 4)))) (.cons (.ret (.cst (.bl true))) .nil) (.nil))
    (.cons (.ite (.cmp .nin (.var 4) (.var 1)) (.cons (.ret (.cst (.bl false))) .nil) (.nil))
    (.cons (.for_ (.var 3) .seq (.cons (.ix (.var 1) (.var 4)) .nil) (.cons (.ite (.cmp .nin (.var 3) (.var 5)) (.cons (.ret (.cst (.bl false))) .nil) (.nil)) .nil))
    (.cons (.ret (.cst (.bl true))) .nil))))
def f429 : Fn := ⟨3, 7, b429⟩
abbrev s429 : Stmt := top 15
def d429 : Df := ⟨429, "returns_all", "returns_all", ["tables", "keys", "told", "column", "table", "given", "cap"], ["tables", "keys", "told"], s429, f429⟩
/-- 252: _law_pool -/
def b252 : Cms := .cons (.ret (.bin .add (.lst (.cons (.cst (.int 0)) (.cons (.cst (.int 4)) (.cons (.cst (.int 5)) (.cons (.cst (.int 0)) .nil))))) (.lc (.blt .int (.cons (.var 1) .nil)) (.var 1) .seq (.cons (.var 0) .nil) .nop [("_law_cell", 1)]))) .nil
def f252 : Fn := ⟨1, 2, b252⟩
abbrev s252 : Stmt := top 18
def d252 : Df := ⟨252, "_law_pool", "_law_pool", ["_law_script", "_law_cell"], ["_law_script"], s252, f252⟩
/-- 224: _law_mixed -/
def b224 : Cms := .cons (.asg (.loc (.var 2)) (.bin .mod (.blt .int (.cons (.bin .mul (.bin .add (.bin .add (.var 0) (.bin .mul (.cst (.int 7919)) (.var 1))) (.cst (.int 1))) (.cst (.int 48271))) .nil)) (.cst (.int 2147483647))))
    (.cons (.asg (.loc (.var 2)) (.bin .mod (.blt .int (.cons (.bin .mul (.var 2) (.bin .add (.bin .fdiv (.var 2) (.cst (.int 1009))) (.cst (.int 69621)))) .nil)) (.cst (.int 2147483647))))
    (.cons (.ret (.bin .mod (.blt .int (.cons (.bin .mul (.var 2) (.bin .add (.bin .fdiv (.var 2) (.cst (.int 2003))) (.cst (.int 40692)))) .nil)) (.cst (.int 2147483399)))) .nil))
def f224 : Fn := ⟨2, 3, b224⟩
abbrev s224 : Stmt := top 19
def d224 : Df := ⟨224, "_law_mixed", "_law_mixed", ["_law_seed", "_law_count", "_law_number"], ["_law_seed", "_law_count"], s224, f224⟩
/-- 148: _law_draw -/
def b148 : Cms := .cons (.asg (.sub (.var 0) (.cst (.int 3))) (.bin .add (.ix (.var 0) (.cst (.int 3))) (.cst (.int 1))))
    (.cons (.ite (.and (.cmp .eq (.ix (.var 0) (.cst (.int 0))) (.cst (.int 0))) (.cmp .lt (.ix (.var 0) (.cst (.int 1))) (.blt .len (.cons (.var 0) .nil)))) (.cons (.asg (.loc (.var 2)) (.blt .abs (.cons (.ix (.var 0) (.ix (.var 0) (.cst (.int 1)))) .nil)))
    (.cons (.asg (.sub (.var 0) (.cst (.int 1))) (.bin .add (.ix (.var 0) (.cst (.int 1))) (.cst (.int 1))))
    (.cons (.ite (.cmp .lt (.var 2) (.bin .pow (.cst (.int 10)) (.cst (.int 18)))) (.cons (.asg (.sub (.var 0) (.cst (.int 2))) (.bin .mod (.blt .int (.cons (.bin .add (.bin .add (.bin .mul (.ix (.var 0) (.cst (.int 2))) (.cst (.int 7919))) (.var 2)) (.cst (.int 1))) .nil)) (.cst (.int 2147483647)))) .nil) (.cons (.asg (.sub (.var 0) (.cst (.int 0))) (.var 2)) .nil)) .nil))) (.nil))
    (.cons (.ite (.cmp .gt (.ix (.var 0) (.cst (.int 0))) (.cst (.int 0))) (.cons (.asg (.loc (.var 3)) (.bin .mod (.blt .int (.cons (.ix (.var 0) (.cst (.int 0))) .nil)) (.var 1)))
    (.cons (.asg (.sub (.var 0) (.cst (.int 0))) (.bin .fdiv (.ix (.var 0) (.cst (.int 0))) (.var 1)))
    (.cons (.ret (.var 3)) .nil))) (.nil))
    (.cons (.ret (.bin .mod (.blt .int (.cons (.call 224 (.cons (.ix (.var 0) (.cst (.int 2))) (.cons (.ix (.var 0) (.cst (.int 3))) .nil))) .nil)) (.var 1))) .nil)))
def f148 : Fn := ⟨2, 4, b148⟩
abbrev s148 : Stmt := top 20
def d148 : Df := ⟨148, "_law_draw", "_law_draw", ["_law_pool_here", "_law_many", "_law_cell", "_law_found"], ["_law_pool_here", "_law_many"], s148, f148⟩
/-- 325: _law_word -/
def b325 : Cms := .cons (.asg (.loc (.var 2)) (.cst (.str "abcdefghijklmnopqrstuvwxyz")))
    (.cons (.asg (.loc (.var 3)) (.cst (.str "")))
    (.cons (.for_ (.var 4) .rng1 (.cons (.var 1) .nil) (.cons (.asg (.loc (.var 3)) (.bin .add (.var 3) (.ix (.var 2) (.call 148 (.cons (.var 0) (.cons (.cst (.int 26)) .nil)))))) .nil))
    (.cons (.ret (.var 3)) .nil)))
def f325 : Fn := ⟨2, 5, b325⟩
abbrev s325 : Stmt := top 21
def d325 : Df := ⟨325, "_law_word", "_law_word", ["_law_pool_here", "_law_many", "_law_letters", "_law_word_here", "_law_k"], ["_law_pool_here", "_law_many"], s325, f325⟩
/-- 230: _law_names -/
def b230 : Cms := .cons (.asg (.loc (.var 2)) (.cst (.str "abcdefghijklmnopqrstuvwxyz")))
    (.cons (.asg (.loc (.var 3)) (.call 325 (.cons (.var 0) (.cons (.call 148 (.cons (.var 0) (.cons (.cst (.int 8)) .nil))) .nil))))
    (.cons (.asg (.loc (.var 4)) (.call 148 (.cons (.var 0) (.cons (.cst (.int 26)) .nil))))
    (.cons (.asg (.loc (.var 5)) (.ix (.lst (.cons (.cst (.int 1)) (.cons (.cst (.int 3)) (.cons (.cst (.int 5)) (.cons (.cst (.int 7)) (.cons (.cst (.int 9)) (.cons (.cst (.int 11)) .nil))))))) (.call 148 (.cons (.var 0) (.cons (.cst (.int 6)) .nil)))))
    (.cons (.asg (.loc (.var 6)) (.call 148 (.cons (.var 0) (.cons (.cst (.int 2)) .nil))))
    (.cons (.asg (.loc (.var 7)) (.lst .nil))
    (.cons (.for_ (.var 8) .rng1 (.cons (.var 1) .nil) (.cons (.asg (.loc (.var 9)) (.ix (.var 2) (.bin .mod (.blt .int (.cons (.bin .add (.var 4) (.bin .mul (.var 5) (.var 8))) .nil)) (.cst (.int 26)))))
    (.cons (.ite (.cmp .eq (.var 6) (.cst (.int 1))) (.cons (.expr (.meth .append (.var 7) (.cons (.bin .add (.var 9) (.var 3)) .nil))) .nil) (.cons (.expr (.meth .append (.var 7) (.cons (.bin .add (.var 3) (.var 9)) .nil))) .nil)) .nil)))
    (.cons (.ret (.var 7)) .nil)))))))
def f230 : Fn := ⟨2, 10, b230⟩
abbrev s230 : Stmt := top 22
def d230 : Df := ⟨230, "_law_names", "_law_names", ["_law_pool_here", "_law_many", "_law_letters", "_law_stem", "_law_first", "_law_step", "_law_front", "_law_found", "_law_k", "_law_sign"], ["_law_pool_here", "_law_many"], s230, f230⟩
/-- 136: _law_columns -/
def b136 : Cms := .cons (.asg (.loc (.var 4)) (.lc (.var 5) (.var 5) .rng1 (.cons (.var 1) .nil) (.cmp .eq (.call 148 (.cons (.var 0) (.cons (.cst (.int 2)) .nil))) (.cst (.int 1))) [("_law_column", 5)]))
    (.cons (.ite (.cmp .lt (.blt .len (.cons (.var 4) .nil)) (.var 2)) (.cons (.asg (.loc (.var 4)) (.lst (.cons (.call 148 (.cons (.var 0) (.cons (.var 1) .nil))) .nil))) .nil) (.nil))
    (.cons (.ret (.blt .tuple (.cons (.sl (.var 4) .nop (.var 3)) .nil))) .nil))
def f136 : Fn := ⟨4, 6, b136⟩
abbrev s136 : Stmt := top 23
def d136 : Df := ⟨136, "_law_columns", "_law_columns", ["_law_pool_here", "_law_width", "_law_low", "_law_high", "_law_chosen", "_law_column"], ["_law_pool_here", "_law_width", "_law_low", "_law_high"], s136, f136⟩
/-- 298: _law_tables -/
def b298 : Cms := .cons (.asg (.loc (.var 3)) (.call 230 (.cons (.var 0) (.cons (.var 1) .nil))))
    (.cons (.asg (.loc (.var 4)) .dct)
    (.cons (.for_ (.var 5) .seq (.cons (.var 3) .nil) (.cons (.asg (.sub (.var 4) (.var 5)) (.bin .add (.cst (.int 1)) (.call 148 (.cons (.var 0) (.cons (.var 2) .nil))))) .nil))
    (.cons (.ret (.var 4)) .nil)))
def f298 : Fn := ⟨3, 6, b298⟩
abbrev s298 : Stmt := top 24
def d298 : Df := ⟨298, "_law_tables", "_law_tables", ["_law_pool_here", "_law_many", "_law_widest", "_law_names_here", "_law_tables_here", "_law_name"], ["_law_pool_here", "_law_many", "_law_widest"], s298, f298⟩
/-- 210: _law_keys -/
def b210 : Cms := .cons (.asg (.loc (.var 2)) .dct)
    (.cons (.for_ (.var 3) .seq (.cons (.blt .list (.cons (.var 1) .nil)) .nil) (.cons (.ite (.and (.cmp .gt (.ix (.var 1) (.var 3)) (.cst (.int 1))) (.cmp .eq (.call 148 (.cons (.var 0) (.cons (.cst (.int 3)) .nil))) (.cst (.int 0)))) (.cons (.asg (.sub (.var 2) (.var 3)) (.call 136 (.cons (.var 0) (.cons (.ix (.var 1) (.var 3)) (.cons (.cst (.int 1)) (.cons (.bin .sub (.ix (.var 1) (.var 3)) (.cst (.int 1))) .nil)))))) .nil) (.nil)) .nil))
    (.cons (.ret (.var 2)) .nil))
def f210 : Fn := ⟨2, 4, b210⟩
abbrev s210 : Stmt := top 25
def d210 : Df := ⟨210, "_law_keys", "_law_keys", ["_law_pool_here", "_law_tables_here", "_law_keys_here", "_law_name"], ["_law_pool_here", "_law_tables_here"], s210, f210⟩
/-- 198: _law_is_whole -/
def b198 : Cms := .cons (.asg (.loc (.tup [3, 4, 5])) (.var 2))
    (.cons (.ite (.or (.cmp .isn (.var 5) (.cst .non)) (.cmp .eq (.blt .len (.cons (.var 4) .nil)) (.ix (.var 0) (.var 3)))) (.cons (.ret (.cst (.bl true))) .nil) (.nil))
    (.cons (.ite (.cmp .nin (.var 3) (.var 1)) (.cons (.ret (.cst (.bl false))) .nil) (.nil))
    (.cons (.ret (.cmp .eq (.lc (.var 6) (.var 6) .seq (.cons (.ix (.var 1) (.var 3)) .nil) (.cmp .nin (.var 6) (.var 4)) [("_law_column", 6)]) (.lst .nil))) .nil)))
def f198 : Fn := ⟨3, 7, b198⟩
abbrev s198 : Stmt := top 26
def d198 : Df := ⟨198, "_law_is_whole", "_law_is_whole", ["_law_tables_here", "_law_keys_here", "_law_told", "_law_table", "_law_given", "_law_cap", "_law_column"], ["_law_tables_here", "_law_keys_here", "_law_told"], s198, f198⟩
/-- 275: _law_services -/
def b275 : Cms := .cons (.asg (.loc (.var 5)) (.blt .list (.cons (.var 1) .nil)))
    (.cons (.asg (.loc (.var 6)) (.call 230 (.cons (.var 0) (.cons (.bin .add (.blt .len (.cons (.var 5) .nil)) (.var 4)) .nil))))
    (.cons (.asg (.loc (.var 7)) .dct)
    (.cons (.asg (.loc (.var 8)) (.lst .nil))
    (.cons (.for_ (.var 9) .rng1 (.cons (.blt .len (.cons (.var 6) .nil)) .nil) (.cons (.asg (.loc (.var 10)) (.ix (.var 5) (.bin .mod (.var 9) (.blt .len (.cons (.var 5) .nil)))))
    (.cons (.asg (.loc (.var 11)) (.ix (.var 3) (.call 148 (.cons (.var 0) (.cons (.blt .len (.cons (.var 3) .nil)) .nil)))))
    (.cons (.asg (.loc (.var 12)) (.tup (.cons (.var 10) (.cons (.call 136 (.cons (.var 0) (.cons (.ix (.var 1) (.var 10)) (.cons (.cst (.int 0)) (.cons (.cst (.int 4)) .nil))))) (.cons (.var 11) .nil)))))
    (.cons (.ite (.not (.call 198 (.cons (.var 1) (.cons (.var 2) (.cons (.var 12) .nil))))) (.cons (.ite (.cmp .inn (.var 10) (.var 8)) (.cons (.asg (.loc (.var 12)) (.tup (.cons (.var 10) (.cons (.ix (.var 12) (.cst (.int 1))) (.cons (.cst .non) .nil))))) .nil) (.cons (.expr (.meth .append (.var 8) (.cons (.var 10) .nil))) .nil)) .nil) (.nil))
    (.cons (.asg (.sub (.var 7) (.ix (.var 6) (.var 9))) (.var 12)) .nil))))))
    (.cons (.ret (.var 7)) .nil)))))
def f275 : Fn := ⟨5, 13, b275⟩
abbrev s275 : Stmt := top 27
def d275 : Df := ⟨275, "_law_services", "_law_services", ["_law_pool_here", "_law_tables_here", "_law_keys_here", "_law_caps", "_law_more", "_law_order", "_law_names_here", "_law_services_here", "_law_filled", "_law_k", "_law_table", "_law_cap", "_law_told"], ["_law_pool_here", "_law_tables_here", "_law_keys_here", "_law_caps", "_law_more"], s275, f275⟩
/-- 274: _law_schema_parts -/
def b274 : Cms := .cons (.asg (.loc (.var 5)) (.call 298 (.cons (.var 0) (.cons (.var 1) (.cons (.var 2) .nil)))))
    (.cons (.asg (.loc (.var 6)) (.call 210 (.cons (.var 0) (.cons (.var 5) .nil))))
    (.cons (.ret (.lst (.cons (.var 5) (.cons (.var 6) (.cons (.call 275 (.cons (.var 0) (.cons (.var 5) (.cons (.var 6) (.cons (.var 3) (.cons (.var 4) .nil)))))) .nil))))) .nil))
def f274 : Fn := ⟨5, 7, b274⟩
abbrev s274 : Stmt := top 28
def d274 : Df := ⟨274, "_law_schema_parts", "_law_schema_parts", ["_law_pool_here", "_law_many", "_law_widest", "_law_caps", "_law_more", "_law_tables_here", "_law_keys_here"], ["_law_pool_here", "_law_many", "_law_widest", "_law_caps", "_law_more"], s274, f274⟩
/-- 247: _law_pick -/
def b247 : Cms := .cons (.ret (.ix (.var 1) (.call 148 (.cons (.var 0) (.cons (.blt .len (.cons (.var 1) .nil)) .nil))))) .nil
def f247 : Fn := ⟨2, 2, b247⟩
abbrev s247 : Stmt := top 29
def d247 : Df := ⟨247, "_law_pick", "_law_pick", ["_law_pool_here", "_law_row"], ["_law_pool_here", "_law_row"], s247, f247⟩
/-- 307: _law_turned -/
def b307 : Cms := .cons (.asg (.loc (.var 1)) .dct)
    (.cons (.for_ (.var 2) .seq (.cons (.lrv (.blt .list (.cons (.var 0) .nil))) .nil) (.cons (.asg (.sub (.var 1) (.var 2)) (.ix (.var 0) (.var 2))) .nil))
    (.cons (.ret (.var 1)) .nil))
def f307 : Fn := ⟨1, 3, b307⟩
abbrev s307 : Stmt := top 30
def d307 : Df := ⟨307, "_law_turned", "_law_turned", ["_law_table", "_law_found", "_law_name"], ["_law_table"], s307, f307⟩
/-- 133: _law_changed -/
def b133 : Cms := .cons (.asg (.loc (.var 4)) (.call 148 (.cons (.var 0) (.cons (.cst (.int 3)) .nil))))
    (.cons (.ite (.cmp .eq (.var 4) (.cst (.int 0))) (.cons (.asg (.loc (.var 5)) (.lc (.var 6) (.var 6) .seq (.cons (.blt .list (.cons (.var 1) .nil)) .nil) (.cmp .lt (.ix (.var 1) (.var 6)) (.cst (.int 4))) [("_law_name", 6)]))
    (.cons (.ite (.cmp .ne (.var 5) (.lst .nil)) (.cons (.asg (.loc (.var 6)) (.call 247 (.cons (.var 0) (.cons (.var 5) .nil))))
    (.cons (.asg (.sub (.var 1) (.var 6)) (.bin .add (.ix (.var 1) (.var 6)) (.cst (.int 1)))) .nil)) (.nil)) .nil)) (.nil))
    (.cons (.ite (.cmp .eq (.var 4) (.cst (.int 1))) (.cons (.asg (.loc (.var 6)) (.call 247 (.cons (.var 0) (.cons (.blt .list (.cons (.var 1) .nil)) .nil))))
    (.cons (.ite (.cmp .inn (.var 6) (.var 2)) (.cons (.expr (.meth .pop (.var 2) (.cons (.var 6) .nil))) .nil) (.cons (.ite (.cmp .gt (.ix (.var 1) (.var 6)) (.cst (.int 1))) (.cons (.asg (.sub (.var 2) (.var 6)) (.tup (.cons (.bin .sub (.ix (.var 1) (.var 6)) (.cst (.int 1))) .nil))) .nil) (.nil)) .nil)) .nil)) (.nil))
    (.cons (.ite (.cmp .eq (.var 4) (.cst (.int 2))) (.cons (.asg (.loc (.var 6)) (.call 247 (.cons (.var 0) (.cons (.blt .list (.cons (.var 3) .nil)) .nil))))
    (.cons (.asg (.sub (.var 3) (.var 6)) (.tup (.cons (.ix (.ix (.var 3) (.var 6)) (.cst (.int 0))) (.cons (.ix (.ix (.var 3) (.var 6)) (.cst (.int 1))) (.cons (.cst .non) .nil))))) .nil)) (.nil)) .nil)))
def f133 : Fn := ⟨4, 7, b133⟩
abbrev s133 : Stmt := top 31
def d133 : Df := ⟨133, "_law_changed", "_law_changed", ["_law_pool_here", "_law_tables_here", "_law_keys_here", "_law_services_here", "_law_kind", "_law_free", "_law_name"], ["_law_pool_here", "_law_tables_here", "_law_keys_here", "_law_services_here"], s133, f133⟩
/-- 163: _law_fits -/
def b163 : Cms := .cons (.asg (.loc (.var 3)) (.lst .nil))
    (.cons (.for_ (.var 4) .seq (.cons (.blt .list (.cons (.var 2) .nil)) .nil) (.cons (.ite (.not (.call 198 (.cons (.var 0) (.cons (.var 1) (.cons (.ix (.var 2) (.var 4)) .nil))))) (.cons (.ite (.cmp .inn (.ix (.ix (.var 2) (.var 4)) (.cst (.int 0))) (.var 3)) (.cons (.ret (.cst (.bl false))) .nil) (.nil))
    (.cons (.expr (.meth .append (.var 3) (.cons (.ix (.ix (.var 2) (.var 4)) (.cst (.int 0))) .nil))) .nil)) (.nil)) .nil))
    (.cons (.ret (.cst (.bl true))) .nil))
def f163 : Fn := ⟨3, 5, b163⟩
abbrev s163 : Stmt := top 32
def d163 : Df := ⟨163, "_law_fits", "_law_fits", ["_law_tables_here", "_law_keys_here", "_law_services_here", "_law_filled", "_law_name"], ["_law_tables_here", "_law_keys_here", "_law_services_here"], s163, f163⟩
/-- 309: _law_uncapped_due -/
def b309 : Cms := .cons (.asg (.loc (.var 2)) .dct)
    (.cons (.for_ (.var 3) .seq (.cons (.blt .list (.cons (.var 0) .nil)) .nil) (.cons (.asg (.loc (.tup [4, 5, 6])) (.ix (.var 0) (.var 3)))
    (.cons (.ite (.cmp .inn (.var 3) (.var 1)) (.cons (.asg (.loc (.var 6)) (.cst .non)) .nil) (.nil))
    (.cons (.asg (.sub (.var 2) (.var 3)) (.tup (.cons (.var 4) (.cons (.var 5) (.cons (.var 6) .nil))))) .nil))))
    (.cons (.ret (.var 2)) .nil))
def f309 : Fn := ⟨2, 7, b309⟩
abbrev s309 : Stmt := top 33
def d309 : Df := ⟨309, "_law_uncapped_due", "_law_uncapped_due", ["_law_services_here", "_law_names_here", "_law_found", "_law_name", "_law_table", "_law_given", "_law_cap"], ["_law_services_here", "_law_names_here"], s309, f309⟩
/-- 310: _law_uncapped_holds -/
def b310 : Cms := .cons (.asg (.loc (.var 5)) (.lc (.var 13) (.var 13) .seq (.cons (.var 4) .nil) (.cmp .nin (.var 13) (.var 3)) [("_law_name", 13)]))
    (.cons (.asg (.loc (.var 6)) (.blt .list (.cons (.var 4) .nil)))
    (.cons (.asg (.loc (.var 7)) (.cst .non))
    (.cons (.asg (.loc (.var 8)) (.cst .non))
    (.cons (.asg (.loc (.var 9)) (.cst (.bl false)))
    (.cons (.try_ (.cons (.asg (.loc (.var 7)) (.mc "uncapped" (.var 0) (.cons (.var 6) .nil))) .nil) (.cons "UnknownName" (some 10) (.cons (.asg (.loc (.var 8)) (.efld 10 "name"))
    (.cons (.asg (.loc (.var 9)) (.eis 10 "CappedError")) .nil)) .nil))
    (.cons (.ite (.cmp .ne (.var 6) (.var 4)) (.cons (.ret (.cst (.bl false))) .nil) (.nil))
    (.cons (.ite (.cmp .ne (.var 5) (.lst .nil)) (.cons (.ret (.and (.var 9) (.cmp .eq (.var 8) (.ix (.var 5) (.cst (.int 0)))))) .nil) (.nil))
    (.cons (.ite (.or (.cmp .isn (.var 7) (.cst .non)) (.or (.cmp .ne (.fld (.var 7) "tables") (.var 1)) (.cmp .ne (.fld (.var 7) "key_columns") (.var 2)))) (.cons (.ret (.cst (.bl false))) .nil) (.nil))
    (.cons (.asg (.loc (.var 11)) (.call 309 (.cons (.var 3) (.cons (.var 4) .nil))))
    (.cons (.asg (.loc (.var 12)) (.lc (.var 13) (.var 13) .seq (.cons (.blt .sorted (.cons (.blt .list (.cons (.var 11) .nil)) .nil)) .nil) (.not (.call 198 (.cons (.var 1) (.cons (.var 2) (.cons (.ix (.var 11) (.var 13)) .nil))))) [("_law_name", 13)]))
    (.cons (.ret (.and (.cmp .eq (.fld (.var 7) "services") (.var 11)) (.cmp .eq (.mc "capped_names" (.var 7) .nil) (.var 12)))) .nil)))))))))))
def f310 : Fn := ⟨5, 14, b310⟩
abbrev s310 : Stmt := top 34
def d310 : Df := ⟨310, "_law_uncapped_holds", "_law_uncapped_holds", ["_law_schema", "_law_tables_here", "_law_keys_here", "_law_services_here", "_law_names_here", "_law_unknown", "_law_handed", "_law_told", "_law_word_here", "_law_under", "e", "_law_due", "_law_whole", "_law_name"], ["_law_schema", "_law_tables_here", "_law_keys_here", "_law_services_here", "_law_names_here"], s310, f310⟩
/-- 397: law -/
def b397 : Cms := .cons (.asg (.loc (.var 1)) (.call 252 (.cons (.var 0) .nil)))
    (.cons (.asg (.loc (.var 2)) (.call 148 (.cons (.var 1) (.cons (.cst (.int 2)) .nil))))
    (.cons (.asg (.loc (.var 3)) (.call 148 (.cons (.var 1) (.cons (.cst (.int 3)) .nil))))
    (.cons (.asg (.loc (.tup [10, 11, 12])) (.call 274 (.cons (.var 1) (.cons (.bin .add (.cst (.int 1)) (.call 148 (.cons (.var 1) (.cons (.cst (.int 5)) .nil)))) (.cons (.cst (.int 4)) (.cons (.lst (.cons (.cst .non) (.cons (.cst (.int 1)) (.cons (.cst (.int 2)) (.cons (.cst (.int 3)) (.cons (.cst (.int 4)) .nil)))))) (.cons (.call 148 (.cons (.var 1) (.cons (.cst (.int 4)) .nil))) .nil)))))))
    (.cons (.asg (.loc (.var 4)) (.mk "Schema" (.cons (.blt .dict (.cons (.var 10) .nil)) (.cons (.blt .dict (.cons (.var 11) .nil)) (.cons (.blt .dict (.cons (.var 12) .nil)) .nil)))))
    (.cons (.asg (.loc (.var 5)) (.call 307 (.cons (.var 10) .nil)))
    (.cons (.asg (.loc (.var 6)) (.call 307 (.cons (.var 11) .nil)))
    (.cons (.asg (.loc (.var 7)) (.call 307 (.cons (.var 12) .nil)))
    (.cons (.ite (.cmp .eq (.var 2) (.cst (.int 1))) (.cons (.expr (.call 133 (.cons (.var 1) (.cons (.var 5) (.cons (.var 6) (.cons (.var 7) .nil)))))) .nil) (.nil))
    (.cons (.ite (.call 163 (.cons (.var 5) (.cons (.var 6) (.cons (.var 7) .nil)))) (.cons (.asg (.loc (.var 13)) (.mk "Schema" (.cons (.var 5) (.cons (.var 6) (.cons (.var 7) .nil)))))
    (.cons (.asg (.loc (.var 14)) (.and (.cmp .eq (.var 5) (.var 10)) (.and (.cmp .eq (.var 6) (.var 11)) (.cmp .eq (.var 7) (.var 12)))))
    (.cons (.ite (.or (.cmp .ne (.oeq (.var 4) (.var 13)) (.var 14)) (.or (.cmp .ne (.oeq (.var 13) (.var 4)) (.var 14)) (.not (.oeq (.var 4) (.mk "Schema" (.cons (.var 10) (.cons (.var 11) (.cons (.var 12) .nil)))))))) (.cons (.ret (.cst (.bl false))) .nil) (.nil)) .nil))) (.nil))
    (.cons (.asg (.loc (.var 8)) (.lc (.var 15) (.var 15) .seq (.cons (.blt .list (.cons (.var 12) .nil)) .nil) (.cmp .eq (.call 148 (.cons (.var 1) (.cons (.cst (.int 2)) .nil))) (.cst (.int 0))) [("_law_name", 15)]))
    (.cons (.ite (.cmp .eq (.var 3) (.cst (.int 0))) (.cons (.expr (.meth .insert (.var 8) (.cons (.call 148 (.cons (.var 1) (.cons (.bin .add (.blt .len (.cons (.var 8) .nil)) (.cst (.int 1))) .nil))) (.cons (.call 325 (.cons (.var 1) (.cons (.bin .add (.cst (.int 1)) (.call 148 (.cons (.var 1) (.cons (.cst (.int 8)) .nil)))) .nil))) .nil)))) .nil) (.nil))
    (.cons (.for_ (.var 9) .seq (.cons (.lst (.cons (.var 8) (.cons (.mc "capped_names" (.var 4) .nil) (.cons (.lst .nil) .nil)))) .nil) (.cons (.ite (.not (.call 310 (.cons (.var 4) (.cons (.var 10) (.cons (.var 11) (.cons (.var 12) (.cons (.var 9) .nil))))))) (.cons (.ret (.cst (.bl false))) .nil) (.nil)) .nil))
    (.cons (.ret (.and (.cmp .eq (.fld (.var 4) "services") (.var 12)) (.cmp .eq (.mc "capped_names" (.mc "uncapped" (.var 4) (.cons (.blt .list (.cons (.var 12) .nil)) .nil)) .nil) (.lst .nil)))) .nil)))))))))))))
def f397 : Fn := ⟨1, 16, b397⟩
abbrev s397 : Stmt := top 35
def d397 : Df := ⟨397, "law", "law", ["_law_script", "_law_pool_here", "_law_change", "_law_unknown", "_law_schema", "_law_one", "_law_two", "_law_three", "_law_names_here", "_law_asked", "_law_tables_here", "_law_keys_here", "_law_services_here", "_law_other", "_law_due", "_law_name"], ["_law_script"], s397, f397⟩
/-- 76: Schema.__init__ -/
def b76 : Cms := .cons (.expr (.call 355 (.cons (.var 1) .nil)))
    (.cons (.expr (.call 349 (.cons (.var 1) (.cons (.var 2) .nil))))
    (.cons (.expr (.call 354 (.cons (.var 1) (.cons (.var 3) .nil))))
    (.cons (.asg (.loc (.var 4)) .dct)
    (.cons (.asg (.loc (.var 5)) .dct)
    (.cons (.for_ (.var 6) .seq (.cons (.blt .sorted (.cons (.blt .list (.cons (.var 3) .nil)) .nil)) .nil) (.cons (.asg (.loc (.var 7)) (.ix (.var 3) (.var 6)))
    (.cons (.asg (.sub (.var 4) (.var 6)) (.call 429 (.cons (.var 1) (.cons (.var 2) (.cons (.var 7) .nil)))))
    (.cons (.ite (.not (.ix (.var 4) (.var 6))) (.cons (.ite (.cmp .inn (.ix (.var 7) (.cst (.int 0))) (.var 5)) (.cons (.rse "InvalidSchema" (.cons (.cst (.str "capped")) (.cons (.var 6) .nil))) .nil) (.nil))
    (.cons (.asg (.sub (.var 5) (.ix (.var 7) (.cst (.int 0)))) (.var 6)) .nil)) (.nil)) .nil))))
    (.cons (.asg (.fld (.var 0) "width_table") (.dc (.var 6) (.ix (.var 1) (.var 6)) (.var 6) .seq (.cons (.blt .sorted (.cons (.blt .list (.cons (.var 1) .nil)) .nil)) .nil) [("name", 6)]))
    (.cons (.asg (.fld (.var 0) "key_table") (.dc (.var 6) (.ix (.var 2) (.var 6)) (.var 6) .seq (.cons (.blt .sorted (.cons (.blt .list (.cons (.var 2) .nil)) .nil)) .nil) [("name", 6)]))
    (.cons (.asg (.fld (.var 0) "service_table") (.dc (.var 6) (.ix (.var 3) (.var 6)) (.var 6) .seq (.cons (.blt .sorted (.cons (.blt .list (.cons (.var 3) .nil)) .nil)) .nil) [("name", 6)]))
    (.cons (.asg (.fld (.var 0) "whole_table") (.var 4))
    (.cons (.asg (.fld (.var 0) "capped_table") (.var 5)) .nil))))))))))
def f76 : Fn := ⟨4, 8, b76⟩
abbrev s76 : Stmt := meth 16 0
def d76 : Df := ⟨76, "__init__", "Schema.__init__", ["self", "tables", "keys", "services", "whole", "capped", "name", "told"], ["self", "tables", "keys", "services"], s76, f76⟩
/-- 85: Schema.tables -/
def b85 : Cms := .cons (.ret (.blt .dict (.cons (.fld (.var 0) "width_table") .nil))) .nil
def f85 : Fn := ⟨1, 1, b85⟩
abbrev s85 : Stmt := meth 16 1
def d85 : Df := ⟨85, "tables", "Schema.tables", ["self"], ["self"], s85, f85⟩
/-- 79: Schema.key_columns -/
def b79 : Cms := .cons (.ret (.blt .dict (.cons (.fld (.var 0) "key_table") .nil))) .nil
def f79 : Fn := ⟨1, 1, b79⟩
abbrev s79 : Stmt := meth 16 2
def d79 : Df := ⟨79, "key_columns", "Schema.key_columns", ["self"], ["self"], s79, f79⟩
/-- 83: Schema.services -/
def b83 : Cms := .cons (.ret (.blt .dict (.cons (.fld (.var 0) "service_table") .nil))) .nil
def f83 : Fn := ⟨1, 1, b83⟩
abbrev s83 : Stmt := meth 16 3
def d83 : Df := ⟨83, "services", "Schema.services", ["self"], ["self"], s83, f83⟩
/-- 75: Schema.__eq__ -/
def b75 : Cms := .cons (.ite (.not (.isc (.var 1) "Schema")) (.cons (.ret (.cst (.bl false))) .nil) (.nil))
    (.cons (.ite (.or (.cmp .ne (.fld (.var 0) "width_table") (.fld (.var 1) "width_table")) (.cmp .ne (.fld (.var 0) "key_table") (.fld (.var 1) "key_table"))) (.cons (.ret (.cst (.bl false))) .nil) (.nil))
    (.cons (.ret (.cmp .eq (.fld (.var 0) "service_table") (.fld (.var 1) "service_table"))) .nil))
def f75 : Fn := ⟨2, 2, b75⟩
abbrev s75 : Stmt := meth 16 4
def d75 : Df := ⟨75, "__eq__", "Schema.__eq__", ["self", "other"], ["self", "other"], s75, f75⟩
/-- 77: Schema.capped_names -/
def b77 : Cms := .cons (.lk (.fld (.var 0) "service_table") (.ret (.lc (.var 1) (.var 1) .seq (.cons (.fld (.var 0) "service_table") .nil) (.not (.ix (.fld (.var 0) "whole_table") (.var 1))) [("name", 1)]))) .nil
def f77 : Fn := ⟨1, 2, b77⟩
abbrev s77 : Stmt := meth 16 11
def d77 : Df := ⟨77, "capped_names", "Schema.capped_names", ["self", "name"], ["self"], s77, f77⟩
/-- 86: Schema.uncapped -/
def b86 : Cms := .cons (.for_ (.var 2) .seq (.cons (.var 1) .nil) (.cons (.ite (.cmp .nin (.var 2) (.fld (.var 0) "service_table")) (.cons (.rse "UnknownName" (.cons (.var 2) .nil)) .nil) (.nil)) .nil))
    (.cons (.asg (.loc (.var 3)) .dct)
    (.cons (.lk (.fld (.var 0) "service_table") (.for_ (.tup [2, 4]) .items (.cons (.fld (.var 0) "service_table") .nil) (.cons (.asg (.sub (.var 3) (.var 2)) (.ife (.cmp .inn (.var 2) (.var 1)) (.tup (.cons (.ix (.var 4) (.cst (.int 0))) (.cons (.ix (.var 4) (.cst (.int 1))) (.cons (.cst .non) .nil)))) (.var 4))) .nil)))
    (.cons (.ret (.mk "Schema" (.cons (.fld (.var 0) "width_table") (.cons (.fld (.var 0) "key_table") (.cons (.var 3) .nil))))) .nil)))
def f86 : Fn := ⟨2, 5, b86⟩
abbrev s86 : Stmt := meth 16 12
def d86 : Df := ⟨86, "uncapped", "Schema.uncapped", ["self", "names", "name", "services", "told"], ["self", "names"], s86, f86⟩
def clSchema : Cl := ⟨some 76, ["capped_table", "key_table", "service_table", "whole_table", "width_table"], [("__eq__", 75), ("capped_names", 77), ("uncapped", 86)], [("tables", 85), ("key_columns", 79), ("services", 83)]⟩
def ecUnknownName : Ec := ⟨["name"], ["UnknownName", "CappedError", "ValueError"]⟩
def xfUnknownName : Xf := ⟨"__init__", "UnknownName.__init__", ["self", "name"], ["self", "name"], meth 3 0⟩
theorem xoUnknownName : okX "CappedError" ecUnknownName.fields xfUnknownName = true := by decide +kernel
def ecInvalidSchema : Ec := ⟨["part", "name"], ["InvalidSchema", "CappedError", "ValueError"]⟩
def xfInvalidSchema : Xf := ⟨"__init__", "InvalidSchema.__init__", ["self", "part", "name"], ["self", "part", "name"], meth 4 0⟩
theorem xoInvalidSchema : okX "CappedError" ecInvalidSchema.fields xfInvalidSchema = true := by decide +kernel
def ga : Ga := ⟨[(374, f374), (389, f389), (371, f371), (355, f355), (349, f349), (381, f381), (354, f354), (429, f429), (252, f252), (224, f224), (148, f148), (325, f325), (230, f230), (136, f136), (298, f298), (210, f210), (198, f198), (275, f275), (274, f274), (247, f247), (307, f307), (133, f133), (163, f163), (309, f309), (310, f310), (397, f397), (76, f76), (85, f85), (79, f79), (83, f83), (75, f75), (77, f77), (86, f86)], [(5, .str "abcdefghijklmnopqrstuvwxyz")], [("Schema", clSchema)], [("UnknownName", ecUnknownName), ("InvalidSchema", ecInvalidSchema)]⟩
def dfs : List Df := [d374, d389, d371, d355, d349, d381, d354, d429, d252, d224, d148, d325, d230, d136, d298, d210, d198, d275, d274, d247, d307, d133, d163, d309, d310, d397, d76, d85, d79, d83, d75, d77, d86]
def nm : Nm := ⟨[(374, "is_integer"), (389, "is_word"), (371, "is_columns"), (355, "check_tables"), (349, "check_keys"), (381, "is_service"), (354, "check_services"), (429, "returns_all"), (252, "_law_pool"), (224, "_law_mixed"), (148, "_law_draw"), (325, "_law_word"), (230, "_law_names"), (136, "_law_columns"), (298, "_law_tables"), (210, "_law_keys"), (198, "_law_is_whole"), (275, "_law_services"), (274, "_law_schema_parts"), (247, "_law_pick"), (307, "_law_turned"), (133, "_law_changed"), (163, "_law_fits"), (309, "_law_uncapped_due"), (310, "_law_uncapped_holds"), (397, "law")], [(5, "LETTERS")], ["Schema"], ["UnknownName", "InvalidSchema"]⟩
theorem ok374 : okD nm d374 = true := by decide +kernel
theorem ok389 : okD nm d389 = true := by decide +kernel
theorem ok371 : okD nm d371 = true := by decide +kernel
theorem ok355 : okD nm d355 = true := by decide +kernel
theorem ok349 : okD nm d349 = true := by decide +kernel
theorem ok381 : okD nm d381 = true := by decide +kernel
theorem ok354 : okD nm d354 = true := by decide +kernel
theorem ok429 : okD nm d429 = true := by decide +kernel
theorem ok252 : okD nm d252 = true := by decide +kernel
theorem ok224 : okD nm d224 = true := by decide +kernel
theorem ok148 : okD nm d148 = true := by decide +kernel
theorem ok325 : okD nm d325 = true := by decide +kernel
theorem ok230 : okD nm d230 = true := by decide +kernel
theorem ok136 : okD nm d136 = true := by decide +kernel
theorem ok298 : okD nm d298 = true := by decide +kernel
theorem ok210 : okD nm d210 = true := by decide +kernel
theorem ok198 : okD nm d198 = true := by decide +kernel
theorem ok275 : okD nm d275 = true := by decide +kernel
theorem ok274 : okD nm d274 = true := by decide +kernel
theorem ok247 : okD nm d247 = true := by decide +kernel
theorem ok307 : okD nm d307 = true := by decide +kernel
theorem ok133 : okD nm d133 = true := by decide +kernel
theorem ok163 : okD nm d163 = true := by decide +kernel
theorem ok309 : okD nm d309 = true := by decide +kernel
theorem ok310 : okD nm d310 = true := by decide +kernel
theorem ok397 : okD nm d397 = true := by decide +kernel
theorem ok76 : okD nm d76 = true := by decide +kernel
theorem ok85 : okD nm d85 = true := by decide +kernel
theorem ok79 : okD nm d79 = true := by decide +kernel
theorem ok83 : okD nm d83 = true := by decide +kernel
theorem ok75 : okD nm d75 = true := by decide +kernel
theorem ok77 : okD nm d77 = true := by decide +kernel
theorem ok86 : okD nm d86 = true := by decide +kernel
end K05

set_option Elab.async false
set_option linter.all false
set_option maxRecDepth 100000
set_option autoImplicit false
set_option maxHeartbeats 1000000
/-! K05l: the law of equal schemas. -/
namespace K05
open PySem L2 G SL
theorem be : SL.BE ga where
  h374 := rfl
  h389 := rfl
  hl := rfl
  h371 := rfl
  h381 := rfl
  h355 := rfl
  he := ⟨_, rfl⟩
  h349 := rfl
  h354 := rfl
  h429 := rfl
  h76 := rfl
  hc := ⟨_, rfl, rfl, rfl⟩
  h198 := rfl
  h83 := rfl
  h85 := rfl
  h79 := rfl
  hp := ⟨_, rfl, rfl, rfl, rfl, rfl, by decide⟩
  h252 := rfl
  h224 := rfl
  h148 := rfl
  h325 := rfl
  h230 := rfl
  h136 := rfl
  h298 := rfl
  h210 := rfl
  h275 := rfl
  h77 := rfl
  hm0 := ⟨_, rfl, rfl⟩
  hu := ⟨_, rfl⟩
  h274 := rfl
  h247 := rfl
  h307 := rfl
  h133 := rfl
  h163 := rfl
  h309 := rfl
  h310 := rfl
  h75 := rfl
  h86 := rfl
  hm2 := ⟨_, rfl, rfl, rfl, rfl⟩
  hus := ⟨_, rfl, rfl, by decide, by decide⟩
theorem law_run (ns : List Int) (h : ns.length ≤ 63) : ∃ s, G.callF ga 30 397 [.flst (ns.map .int)] [] = .ok (.bl true) s := by
  have b := be
  obtain ⟨s1, n, e1, p1⟩ := run_pool (clF ga 28) ns h
  have e1 : (clF ga 29).call 252 [.flst (ns.map .int)] [] = .ok (.ref n) s1 := (call_of (Γ := ga) (k := 28) b.h252 _ _).trans e1
  obtain ⟨r, s2, r1, r2, r3, r4⟩ := draw b.toBD (k := 29) (by omega) (m := 2) p1 (by decide) (by decide)
  obtain ⟨u, s3, u1, u2, u3, u4⟩ := draw b.toBD (k := 29) (by omega) (m := 3) r4.pool (by decide) (by decide)
  -- the parts
  obtain ⟨u5, s4, a1, a2, a3, a4⟩ := draw b.toBD (k := 29) (by omega) (m := 5) u4.pool (by decide) (by decide)
  have g5 := Gd.new a4.pool (.lst [.non, .int 1, .int 2, .int 3, .int 4])
  obtain ⟨u6, s6, b1, b2, b3, b4⟩ := draw b.toBD (k := 29) (by omega) (m := 4) g5.pool (by decide) (by decide)
  have cn : s4.length ≠ n := a4.pool.ne (Nat.le_refl _)
  have hc6 := b4.at cn (new_at (s := s4) (o := .lst [.non, .int 1, .int 2, .int 3, .int 4]))
  obtain ⟨l7, t, m, q, s7, ts, ks, ss, c1, c2, c3, c4, c5, c6, hts, hks, hss, n1, n2, n3, n4, n5, o1, o2, o3, o4⟩ := draw_parts b.toBD2 (k := 29) (by omega) (many := 1 + u5) (wd := 4) (more := u6) (cps := [.non, .int 1, .int 2, .int 3, .int 4]) b4.pool hc6 cn (by omega) (by omega) (by decide) (by decide) b2 (by omega) (by simp) (by simp) (fun z hz => by
    simp only [List.mem_cons, List.not_mem_nil, or_false] at hz
    rcases hz with rfl | rfl | rfl | rfl | rfl <;> rfl)
  have e3 : (ev (clF ga 29) (.call 274 (.cons (.var 1) (.cons (.bin .add (.cst (.int 1)) (.call 148 (.cons (.var 1) (.cons (.cst (.int 5)) .nil)))) (.cons (.cst (.int 4)) (.cons (.lst (.cons (.cst .non) (.cons (.cst (.int 1)) (.cons (.cst (.int 2)) (.cons (.cst (.int 3)) (.cons (.cst (.int 4)) .nil)))))) (.cons (.call 148 (.cons (.var 1) (.cons (.cst (.int 4)) .nil))) .nil))))))).1 [some (.flst (ns.map .int)), some (.ref n), some (.int r), some (.int u), none, none, none, none, none, none, none, none, none, none, none, none] s3 = .ok (.ref l7) s7 := by
    simp only [ev, evs, plainT, List.getElem?_cons_zero, List.getElem?_cons_succ, R.bind_ok, Cst.d, a1, addI, new, b1, c1]
  have p3 : Pt3 ts ks ss := ⟨hts, hks, hss.nd, hss.all, n1, by omega, by omega, n4, by omega⟩
  have one : One ts ks ss := hss.one
  -- the schema, of copies
  have g11 := Gp.new s7 (.dct (DK ts))
  have d1 := copy_dct c4
  have g12 := Gp.new (s7 ++ [.dct (DK ts)]) (.dct (DK ks))
  have d2 := copy_dct (g11 _ _ c5)
  have g13 := Gp.new ((s7 ++ [.dct (DK ts)]) ++ [.dct (DK ks)]) (.dct (DK ss))
  have d3 := copy_dct (g12 _ _ (g11 _ _ c6))
  obtain ⟨s8, hs8⟩ : ∃ s8 : S, s8 = ((s7 ++ [.dct (DK ts)]) ++ [.dct (DK ks)]) ++ [.dct (DK ss)] := ⟨_, rfl⟩
  have G8 : Gp s7 s8 := by rw [hs8]; exact (g11.trans g12).trans g13
  have k1 : s8[s7.length]? = some (.dct (DK ts)) := by rw [hs8]; exact g13 _ _ (g12 _ _ new_at)
  have k2 : s8[(s7 ++ [O.dct (DK ts)]).length]? = some (.dct (DK ks)) := by rw [hs8]; exact g13 _ _ new_at
  have k3 : s8[((s7 ++ [O.dct (DK ts)]) ++ [O.dct (DK ks)]).length]? = some (.dct (DK ss)) := by rw [hs8]; exact new_at
  obtain ⟨s9, g9, mk, sch⟩ := mk_sch b.toBP (k := 29) (by omega) k1 k2 k3 p3 one
  have p8 := (Gd.of_gp c2.pool G8).pool
  have wd9 : Wd s9 n (s8.length + 1) s8.length t m q ts ks ss := ⟨(Gd.of_gp p8 g9).pool, sch, p8.lt, Nat.lt_succ_self _, g9 _ _ (G8 _ _ c4), g9 _ _ (G8 _ _ c5), g9 _ _ (G8 _ _ c6), p3, one⟩
  -- turned round
  obtain ⟨a, s10, t1, t2, t3, t4⟩ := turned_ok b (k := 29) (by omega) wd9.hn hts.nd (by omega)
  have wd10 := wd9.gp t2
  obtain ⟨c, s11, v1, v2, v3, v4⟩ := turned_ok b (k := 29) (by omega) wd10.hm hks.nd (by omega)
  have wd11 := wd10.gp v2
  obtain ⟨e, s12, w1, w2, w3, w4⟩ := turned_ok b (k := 29) (by omega) wd11.hq hss.nd (by omega)
  have wd12 := wd11.gp w2
  have la := (List.getElem?_eq_some_iff.mp t3).1
  have lc := (List.getElem?_eq_some_iff.mp v3).1
  have G12 := (t2.trans v2).trans w2
  have l9 : s9.length ≤ s10.length := (Gd.of_gp wd9.pool t2).len wd9.pool
  have l10 : s10.length ≤ s11.length := (Gd.of_gp wd10.pool v2).len wd10.pool
  obtain ⟨s13, ts3, ks3, ss3, x1, x2, x3, x4, x5, x6⟩ := may_change b (k := 29) (by omega) (sc := .flst (ns.map .int)) (r := r) (u := u) (i := s8.length) (t := t) (m := m) (q := q) wd12.pool (w2 _ _ (v2 _ _ t3)) (w2 _ _ v3) w3 (by omega) (by omega) (by omega) p3.rev (by rw [List.length_reverse]; omega)
  have G13 : Gd n [] s9 s13 := ((Gd.of_gp wd9.pool G12).wide.trans x2).drop (fun j hj => by
    simp only [List.mem_cons, List.not_mem_nil, or_false] at hj
    omega)
  have wd13 := wd9.gd G13
  obtain ⟨s14, z3, z4, y1, y2⟩ := may_fit b (k := 29) (by omega) (sc := .flst (ns.map .int)) (r := r) (u := u) wd13 x3 x4 x5 x6
  have wd14 := wd13.gp y2
  obtain ⟨l, s15, xs, f1, f2, f3, f4, f5, f6⟩ := some_names b (k := 29) (by omega) (sc := .flst (ns.map .int)) (r := r) (u := u) (a := a) (c := c) (e := e) wd14 (w3 := z3) (w4 := z4)
  have ln : l ≠ n := wd14.pool.ne f6
  obtain ⟨s16, ys, h1, h2, h3, h4, h5⟩ := may_insert b (k := 29) (by omega) (sc := .flst (ns.map .int)) (r := r) (u := u) (i := s8.length) (a := a) (c := c) (e := e) (t := t) (m := m) (q := q) f2.pool f3 ln f4 f5 (w3 := z3) (w4 := z4)
  have wd16 := wd14.gd ((f2.wide.trans h2).drop (fun j hj => by
    simp only [List.mem_cons, List.not_mem_nil, or_false] at hj
    omega))
  obtain ⟨s17, z9, i1, i2⟩ := three_lists b (k := 29) (by omega) (sc := .flst (ns.map .int)) (r := r) (u := u) (a := a) (c := c) (e := e) wd16 h3 h4 h5 (w3 := z3) (w4 := z4)
  have wd17 := wd16.gp i2
  obtain ⟨s18, j1⟩ := law_end b (k := 29) (by omega) (sc := .flst (ns.map .int)) (r := r) (u := u) (a := a) (c := c) (e := e) wd17 (v8 := some (.ref l)) (v9 := z9) (w3 := z3) (w4 := z4)
  refine ⟨s18, ?_⟩
  show (clF ga (29 + 1)).call 397 [.flst (ns.map .int)] [] = _
  refine call_rt (f := 397) (fn := f397) rfl (τ := [some (.flst (ns.map .int)), none, none, none, none, none, none, none, none, none, none, none, none, none, none, none]) rfl rfl ?_
  refine (exs_asg (d := .ref n) (s' := s1) ?_).trans ?_
  · simp only [evE, ev, evs, plainT, List.getElem?_cons_zero, R.bind_ok, e1]
  refine (exs_asg (d := .int r) (s' := s2) ?_).trans ?_
  · simp only [evE, ev, evs, plainT, List.set_cons_zero, List.set_cons_succ, List.getElem?_cons_zero, List.getElem?_cons_succ, R.bind_ok, Cst.d, r1]
  refine (exs_asg (d := .int u) (s' := s3) ?_).trans ?_
  · simp only [evE, ev, evs, plainT, List.set_cons_zero, List.set_cons_succ, List.getElem?_cons_zero, List.getElem?_cons_succ, R.bind_ok, Cst.d, u1]
  refine (exs_nx (τ' := [some (.flst (ns.map .int)), some (.ref n), some (.int r), some (.int u), none, none, none, none, none, none, some (.ref t), some (.ref m), some (.ref q), none, none, none]) (s' := s7) ?_).trans ?_
  · have e3 : evE (clF ga 29) _ _ _ = _ := e3
    simp only [ex, List.set_cons_zero, List.set_cons_succ, e3, R.toS_ok, store, asgV, lstAt_of c3]
    rfl
  have ini : initF (clF ga 29) "Schema" = some 76 := rfl
  refine (exs_asg (d := .ref s8.length) (s' := s9) ?_).trans ?_
  · rw [hs8] at mk ⊢
    simp only [evE, ev, evs, plainT, List.getElem?_cons_zero, List.getElem?_cons_succ, R.bind_ok, ini, d1, d2, d3, mk]
  refine (exs_asg (d := .ref a) (s' := s10) ?_).trans ?_
  · simp only [evE, ev, evs, plainT, List.set_cons_zero, List.set_cons_succ, List.getElem?_cons_zero, List.getElem?_cons_succ, R.bind_ok, t1]
  refine (exs_asg (d := .ref c) (s' := s11) ?_).trans ?_
  · simp only [evE, ev, evs, plainT, List.set_cons_zero, List.set_cons_succ, List.getElem?_cons_zero, List.getElem?_cons_succ, R.bind_ok, v1]
  refine (exs_asg (d := .ref e) (s' := s12) ?_).trans ?_
  · simp only [evE, ev, evs, plainT, List.set_cons_zero, List.set_cons_succ, List.getElem?_cons_zero, List.getElem?_cons_succ, R.bind_ok, w1]
  refine (exs_nx x1).trans ((exs_nx y1).trans ((exs_asg f1).trans ((exs_nx h1).trans ((exs_nx i1).trans (exs_ret j1)))))
end K05
theorem K05.law_ok : ∀ ns : List Int, ns.length ≤ 63 → ∃ s, G.callF K05.ga 30 K05.d397.id [.flst (ns.map .int)] [] = .ok (.bl true) s := K05.law_run

set_option Elab.async false
set_option linter.all false
set_option maxRecDepth 100000
set_option autoImplicit false
set_option maxHeartbeats 4000000
namespace K05
open PySem PySem.Spec PyProof.Rows L2 G
theorem bind374 : BindsD d374.name d374.qual d374.ps d374.st :=
  fun _ _ _ _ _ _ us hl => match us, hl with | [_], _ => rfl
theorem bind389 : BindsD d389.name d389.qual d389.ps d389.st :=
  fun _ _ _ _ _ _ us hl => match us, hl with | [_], _ => rfl
theorem bind371 : BindsD d371.name d371.qual d371.ps d371.st :=
  fun _ _ _ _ _ _ us hl => match us, hl with | [_, _], _ => rfl
theorem bind355 : BindsD d355.name d355.qual d355.ps d355.st :=
  fun _ _ _ _ _ _ us hl => match us, hl with | [_], _ => rfl
theorem bind349 : BindsD d349.name d349.qual d349.ps d349.st :=
  fun _ _ _ _ _ _ us hl => match us, hl with | [_, _], _ => rfl
theorem bind381 : BindsD d381.name d381.qual d381.ps d381.st :=
  fun _ _ _ _ _ _ us hl => match us, hl with | [_, _], _ => rfl
theorem bind354 : BindsD d354.name d354.qual d354.ps d354.st :=
  fun _ _ _ _ _ _ us hl => match us, hl with | [_, _], _ => rfl
theorem bind429 : BindsD d429.name d429.qual d429.ps d429.st :=
  fun _ _ _ _ _ _ us hl => match us, hl with | [_, _, _], _ => rfl
theorem bind252 : BindsD d252.name d252.qual d252.ps d252.st :=
  fun _ _ _ _ _ _ us hl => match us, hl with | [_], _ => rfl
theorem bind224 : BindsD d224.name d224.qual d224.ps d224.st :=
  fun _ _ _ _ _ _ us hl => match us, hl with | [_, _], _ => rfl
theorem bind148 : BindsD d148.name d148.qual d148.ps d148.st :=
  fun _ _ _ _ _ _ us hl => match us, hl with | [_, _], _ => rfl
theorem bind325 : BindsD d325.name d325.qual d325.ps d325.st :=
  fun _ _ _ _ _ _ us hl => match us, hl with | [_, _], _ => rfl
theorem bind230 : BindsD d230.name d230.qual d230.ps d230.st :=
  fun _ _ _ _ _ _ us hl => match us, hl with | [_, _], _ => rfl
theorem bind136 : BindsD d136.name d136.qual d136.ps d136.st :=
  fun _ _ _ _ _ _ us hl => match us, hl with | [_, _, _, _], _ => rfl
theorem bind298 : BindsD d298.name d298.qual d298.ps d298.st :=
  fun _ _ _ _ _ _ us hl => match us, hl with | [_, _, _], _ => rfl
theorem bind210 : BindsD d210.name d210.qual d210.ps d210.st :=
  fun _ _ _ _ _ _ us hl => match us, hl with | [_, _], _ => rfl
theorem bind198 : BindsD d198.name d198.qual d198.ps d198.st :=
  fun _ _ _ _ _ _ us hl => match us, hl with | [_, _, _], _ => rfl
theorem bind275 : BindsD d275.name d275.qual d275.ps d275.st :=
  fun _ _ _ _ _ _ us hl => match us, hl with | [_, _, _, _, _], _ => rfl
theorem bind274 : BindsD d274.name d274.qual d274.ps d274.st :=
  fun _ _ _ _ _ _ us hl => match us, hl with | [_, _, _, _, _], _ => rfl
theorem bind247 : BindsD d247.name d247.qual d247.ps d247.st :=
  fun _ _ _ _ _ _ us hl => match us, hl with | [_, _], _ => rfl
theorem bind307 : BindsD d307.name d307.qual d307.ps d307.st :=
  fun _ _ _ _ _ _ us hl => match us, hl with | [_], _ => rfl
theorem bind133 : BindsD d133.name d133.qual d133.ps d133.st :=
  fun _ _ _ _ _ _ us hl => match us, hl with | [_, _, _, _], _ => rfl
theorem bind163 : BindsD d163.name d163.qual d163.ps d163.st :=
  fun _ _ _ _ _ _ us hl => match us, hl with | [_, _, _], _ => rfl
theorem bind309 : BindsD d309.name d309.qual d309.ps d309.st :=
  fun _ _ _ _ _ _ us hl => match us, hl with | [_, _], _ => rfl
theorem bind310 : BindsD d310.name d310.qual d310.ps d310.st :=
  fun _ _ _ _ _ _ us hl => match us, hl with | [_, _, _, _, _], _ => rfl
theorem bind397 : BindsD d397.name d397.qual d397.ps d397.st :=
  fun _ _ _ _ _ _ us hl => match us, hl with | [_], _ => rfl
theorem bind76 : BindsD d76.name d76.qual d76.ps d76.st :=
  fun _ _ _ _ _ _ us hl => match us, hl with | [_, _, _, _], _ => rfl
theorem bind85 : BindsD d85.name d85.qual d85.ps d85.st :=
  fun _ _ _ _ _ _ us hl => match us, hl with | [_], _ => rfl
theorem bind79 : BindsD d79.name d79.qual d79.ps d79.st :=
  fun _ _ _ _ _ _ us hl => match us, hl with | [_], _ => rfl
theorem bind83 : BindsD d83.name d83.qual d83.ps d83.st :=
  fun _ _ _ _ _ _ us hl => match us, hl with | [_], _ => rfl
theorem bind75 : BindsD d75.name d75.qual d75.ps d75.st :=
  fun _ _ _ _ _ _ us hl => match us, hl with | [_, _], _ => rfl
theorem bind77 : BindsD d77.name d77.qual d77.ps d77.st :=
  fun _ _ _ _ _ _ us hl => match us, hl with | [_], _ => rfl
theorem bind86 : BindsD d86.name d86.qual d86.ps d86.st :=
  fun _ _ _ _ _ _ us hl => match us, hl with | [_, _], _ => rfl
theorem xbUnknownName : BindsD xfUnknownName.name xfUnknownName.qual xfUnknownName.ps xfUnknownName.st :=
  fun _ _ _ _ _ _ us hl => match us, hl with | [_, _], _ => rfl
theorem xbInvalidSchema : BindsD xfInvalidSchema.name xfInvalidSchema.qual xfInvalidSchema.ps xfInvalidSchema.st :=
  fun _ _ _ _ _ _ us hl => match us, hl with | [_, _, _], _ => rfl
theorem oks : ∀ d ∈ dfs, okD nm d = true := by
  intro d hd
  simp only [dfs, List.mem_cons, List.not_mem_nil, or_false] at hd
  rcases hd with rfl | rfl | rfl | rfl | rfl | rfl | rfl | rfl | rfl | rfl | rfl | rfl | rfl | rfl | rfl | rfl | rfl | rfl | rfl | rfl | rfl | rfl | rfl | rfl | rfl | rfl | rfl | rfl | rfl | rfl | rfl | rfl | rfl
  · exact ok374
  · exact ok389
  · exact ok371
  · exact ok355
  · exact ok349
  · exact ok381
  · exact ok354
  · exact ok429
  · exact ok252
  · exact ok224
  · exact ok148
  · exact ok325
  · exact ok230
  · exact ok136
  · exact ok298
  · exact ok210
  · exact ok198
  · exact ok275
  · exact ok274
  · exact ok247
  · exact ok307
  · exact ok133
  · exact ok163
  · exact ok309
  · exact ok310
  · exact ok397
  · exact ok76
  · exact ok85
  · exact ok79
  · exact ok83
  · exact ok75
  · exact ok77
  · exact ok86
theorem top_of {K : PySem.W.Frag} {mg : Str → Option Value} {CSchema CUnknownName CInvalidSchema CB : Addr} (hb : ∀ x ∈ blts, mg x = none)
    (g0 : GlbAt mg "LETTERS" (.str "abcdefghijklmnopqrstuvwxyz"))
    (x374 : DefAt K mg d374)
    (x389 : DefAt K mg d389)
    (x371 : DefAt K mg d371)
    (x355 : DefAt K mg d355)
    (x349 : DefAt K mg d349)
    (x381 : DefAt K mg d381)
    (x354 : DefAt K mg d354)
    (x429 : DefAt K mg d429)
    (x252 : DefAt K mg d252)
    (x224 : DefAt K mg d224)
    (x148 : DefAt K mg d148)
    (x325 : DefAt K mg d325)
    (x230 : DefAt K mg d230)
    (x136 : DefAt K mg d136)
    (x298 : DefAt K mg d298)
    (x210 : DefAt K mg d210)
    (x198 : DefAt K mg d198)
    (x275 : DefAt K mg d275)
    (x274 : DefAt K mg d274)
    (x247 : DefAt K mg d247)
    (x307 : DefAt K mg d307)
    (x133 : DefAt K mg d133)
    (x163 : DefAt K mg d163)
    (x309 : DefAt K mg d309)
    (x310 : DefAt K mg d310)
    (x397 : DefAt K mg d397)
    (cSchema : ClsAt K mg "Schema" CSchema)
    (m76 : MetAt K CSchema "__init__" d76)
    (p85 : PrpAt K CSchema "tables" d85)
    (p79 : PrpAt K CSchema "key_columns" d79)
    (p83 : PrpAt K CSchema "services" d83)
    (m75 : MetAt K CSchema "__eq__" d75)
    (m77 : MetAt K CSchema "capped_names" d77)
    (m86 : MetAt K CSchema "uncapped" d86)
    (nSchema_capped_table : NoAttr K CSchema "capped_table")
    (nSchema_key_table : NoAttr K CSchema "key_table")
    (nSchema_service_table : NoAttr K CSchema "service_table")
    (nSchema_whole_table : NoAttr K CSchema "whole_table")
    (nSchema_width_table : NoAttr K CSchema "width_table")
    (eUnknownName : ErrAt K mg "UnknownName" CUnknownName ecUnknownName.fields xfUnknownName)
    (neUnknownName_name : PySem.W.findIn K (.ref CUnknownName) "name" = some none)
    (eInvalidSchema : ErrAt K mg "InvalidSchema" CInvalidSchema ecInvalidSchema.fields xfInvalidSchema)
    (neInvalidSchema_part : PySem.W.findIn K (.ref CInvalidSchema) "part" = some none)
    (neInvalidSchema_name : PySem.W.findIn K (.ref CInvalidSchema) "name" = some none)
    (sUnknownName_UnknownName : SubAt K CUnknownName CUnknownName true)
    (sUnknownName_InvalidSchema : SubAt K CUnknownName CInvalidSchema false)
    (sInvalidSchema_UnknownName : SubAt K CInvalidSchema CUnknownName false)
    (sInvalidSchema_InvalidSchema : SubAt K CInvalidSchema CInvalidSchema true)
    (bs : BaseOk K mg "CappedError" CB)
    (uUnknownName : PySem.W.kitOne K (.ref CUnknownName) (.ref CB) = some true)
    (uInvalidSchema : PySem.W.kitOne K (.ref CInvalidSchema) (.ref CB) = some true) : ∃ U : Su, Top U K mg ga dfs nm "CappedError" := by
  let cad : Str → Addr := fun c => if c = "Schema" then CSchema else if c = "UnknownName" then CUnknownName else if c = "InvalidSchema" then CInvalidSchema else 0
  have aSchema : cad "Schema" = CSchema := by
    show (if ("Schema" : Str) = "Schema" then CSchema else if ("Schema" : Str) = "UnknownName" then CUnknownName else if ("Schema" : Str) = "InvalidSchema" then CInvalidSchema else 0) = _
    rw [if_pos rfl]
  have aUnknownName : cad "UnknownName" = CUnknownName := by
    show (if ("UnknownName" : Str) = "Schema" then CSchema else if ("UnknownName" : Str) = "UnknownName" then CUnknownName else if ("UnknownName" : Str) = "InvalidSchema" then CInvalidSchema else 0) = _
    rw [if_neg (by decide +kernel), if_pos rfl]
  have aInvalidSchema : cad "InvalidSchema" = CInvalidSchema := by
    show (if ("InvalidSchema" : Str) = "Schema" then CSchema else if ("InvalidSchema" : Str) = "UnknownName" then CUnknownName else if ("InvalidSchema" : Str) = "InvalidSchema" then CInvalidSchema else 0) = _
    rw [if_neg (by decide +kernel), if_neg (by decide +kernel), if_pos rfl]
  refine ⟨{ K := K, cad := cad }, { hK := rfl, exi := rfl, fns := rfl, nd := by decide +kernel, ok := oks, blt := hb, glb := ?_, def_ := ?_, cls := ?_, ecl := ?_ }⟩
  · intro i x d h1 h2
    revert d
    refine all_lookN (P := fun i x => ∀ d, ga.consts.lookup i = some d → ∃ u v, mg x = some u ∧ RelV v u ∧ ∀ ι H, Rep K ι H d v) (fun q hq => ?_) i x h1
    simp only [nm, List.mem_cons, List.not_mem_nil, or_false] at hq
    rcases hq with rfl
    · intro d h2
      have e : ga.consts.lookup 5 = some (.str "abcdefghijklmnopqrstuvwxyz") := rfl
      rw [show ga.consts.lookup _ = _ from e] at h2
      cases h2
      exact g0.at K
  · refine all_lookN (P := fun i x => ∃ d ∈ dfs, d.id = i ∧ ∃ f, DfAt K d f ∧ mg x = some (.ref f) ∧ PySem.W.keepIn K (.ref f) = true) (fun q hq => ?_)
    simp only [nm, List.mem_cons, List.not_mem_nil, or_false] at hq
    rcases hq with rfl | rfl | rfl | rfl | rfl | rfl | rfl | rfl | rfl | rfl | rfl | rfl | rfl | rfl | rfl | rfl | rfl | rfl | rfl | rfl | rfl | rfl | rfl | rfl | rfl | rfl
    · exact ⟨d374, by simp [dfs], rfl, x374.top⟩
    · exact ⟨d389, by simp [dfs], rfl, x389.top⟩
    · exact ⟨d371, by simp [dfs], rfl, x371.top⟩
    · exact ⟨d355, by simp [dfs], rfl, x355.top⟩
    · exact ⟨d349, by simp [dfs], rfl, x349.top⟩
    · exact ⟨d381, by simp [dfs], rfl, x381.top⟩
    · exact ⟨d354, by simp [dfs], rfl, x354.top⟩
    · exact ⟨d429, by simp [dfs], rfl, x429.top⟩
    · exact ⟨d252, by simp [dfs], rfl, x252.top⟩
    · exact ⟨d224, by simp [dfs], rfl, x224.top⟩
    · exact ⟨d148, by simp [dfs], rfl, x148.top⟩
    · exact ⟨d325, by simp [dfs], rfl, x325.top⟩
    · exact ⟨d230, by simp [dfs], rfl, x230.top⟩
    · exact ⟨d136, by simp [dfs], rfl, x136.top⟩
    · exact ⟨d298, by simp [dfs], rfl, x298.top⟩
    · exact ⟨d210, by simp [dfs], rfl, x210.top⟩
    · exact ⟨d198, by simp [dfs], rfl, x198.top⟩
    · exact ⟨d275, by simp [dfs], rfl, x275.top⟩
    · exact ⟨d274, by simp [dfs], rfl, x274.top⟩
    · exact ⟨d247, by simp [dfs], rfl, x247.top⟩
    · exact ⟨d307, by simp [dfs], rfl, x307.top⟩
    · exact ⟨d133, by simp [dfs], rfl, x133.top⟩
    · exact ⟨d163, by simp [dfs], rfl, x163.top⟩
    · exact ⟨d309, by simp [dfs], rfl, x309.top⟩
    · exact ⟨d310, by simp [dfs], rfl, x310.top⟩
    · exact ⟨d397, by simp [dfs], rfl, x397.top⟩
  · refine all_look (P := fun c k => TopCl { K := K, cad := cad } K mg ga dfs c k) (fun q hq => ?_)
    simp only [ga, List.mem_cons, List.not_mem_nil, or_false] at hq
    rcases hq with rfl
    · refine ⟨by show mg "Schema" = some (.ref (cad "Schema")); rw [aSchema]; exact cSchema.mg, by show Cls K (cad "Schema"); rw [aSchema]; exact cSchema.cls, ?_, ?_, ?_, ?_, ?_, ?_, ?_⟩
      · intro f hf
        show NoAttr K (cad "Schema") f
        rw [aSchema]
        simp only [clSchema, List.contains_cons, List.contains_nil, Bool.or_false, Bool.or_eq_true, beq_iff_eq, Bool.false_eq_true] at hf
        rcases hf with rfl | rfl | rfl | rfl | rfl
        · exact nSchema_capped_table
        · exact nSchema_key_table
        · exact nSchema_service_table
        · exact nSchema_whole_table
        · exact nSchema_width_table
      · refine all_look (P := fun m g => ∃ d ∈ dfs, d.id = g ∧ ∃ f, Meth K (cad "Schema") m f ∧ DfAt K d f) (fun q hq => ?_)
        rw [aSchema]
        simp only [clSchema, List.mem_cons, List.not_mem_nil, or_false] at hq
        rcases hq with rfl | rfl | rfl
        · exact ⟨d75, by simp [dfs], rfl, m75⟩
        · exact ⟨d77, by simp [dfs], rfl, m77⟩
        · exact ⟨d86, by simp [dfs], rfl, m86⟩
      · refine all_look (P := fun m g => ∃ d ∈ dfs, d.id = g ∧ ∃ p f, PropOf K (cad "Schema") m p f ∧ DfAt K d f) (fun q hq => ?_)
        rw [aSchema]
        simp only [clSchema, List.mem_cons, List.not_mem_nil, or_false] at hq
        rcases hq with rfl | rfl | rfl
        · exact ⟨d85, by simp [dfs], rfl, p85⟩
        · exact ⟨d79, by simp [dfs], rfl, p79⟩
        · exact ⟨d83, by simp [dfs], rfl, p83⟩
      · intro g hg
        cases hg
        show ∃ d ∈ dfs, d.id = 76 ∧ ∃ f, Mk K (cad "Schema") f ∧ DfAt K d f
        rw [aSchema]
        obtain ⟨f, m, z⟩ := m76
        exact ⟨d76, by simp [dfs], rfl, f, ⟨cSchema.mks, m.at_, m.fn, cSchema.kp⟩, z⟩
      · show PySem.W.findIn K (.ref (cad "Schema")) _ = _ ∧ _ ∧ _ ∧ PySem.W.mroIn K (cad "Schema") _ = _
        rw [aSchema]
        exact cSchema.ins
      · refine all_look (P := fun (x : Str) (k2 : Cl) => PySem.W.kitOne K (.ref (cad x)) (.ref (cad "Schema")) = some (decide (x = "Schema"))) (fun q hq => ?_)
        simp only [ga, List.mem_cons, List.not_mem_nil, or_false] at hq
        rcases hq with rfl
        · show PySem.W.kitOne K (.ref (cad "Schema")) (.ref (cad "Schema")) = some (decide ("Schema" = ("Schema" : Str)))
          unfold PySem.W.kitOne
          simp
      · show ∀ T ∈ _, PySem.W.kitOne K (.type T) (.ref (cad "Schema")) = _
        rw [aSchema]
        exact kit_bt cSchema.is cSchema.ty
  · refine all_look (P := fun c e => TopEc { K := K, cad := cad } K mg ga "CappedError" c e ∧ ∃ CE, BaseOk K mg "CappedError" CE) (fun q hq => ?_)
    simp only [ga, List.mem_cons, List.not_mem_nil, or_false] at hq
    rcases hq with rfl | rfl
    · refine ⟨?_, CB, bs⟩
      obtain ⟨f, fd, i1, i2, i3, i4⟩ := eUnknownName.init
      refine ⟨⟨CB, bs.mg, ?_⟩, by show mg "UnknownName" = some (.ref (cad "UnknownName")); rw [aUnknownName]; exact eUnknownName.mg, by show OexC K (cad "UnknownName"); rw [aUnknownName]; exact eUnknownName.oex, ⟨xfUnknownName, f, fd, xoUnknownName, i1, i2, by show PySem.W.findIn K (.ref (cad "UnknownName")) _ = _; rw [aUnknownName]; exact i3, i4⟩, ?_, by show XfC K (cad "UnknownName"); rw [aUnknownName]; exact eUnknownName.xf, ?_, by show ExcC K (cad "UnknownName"); rw [aUnknownName]; exact eUnknownName.ex, ?_, ?_⟩
      · show PySem.W.kitOne K (.ref (cad "UnknownName")) _ = some (ecUnknownName.sups.contains _)
        rw [aUnknownName, show ecUnknownName.sups.contains "CappedError" = true by decide +kernel]
        exact uUnknownName
      · refine all_look (P := fun (x : Str) (e2 : Ec) => PySem.W.exmOne K (.ref (cad x)) (.ref (cad "UnknownName")) = some (e2.sups.contains "UnknownName")) (fun q hq => ?_)
        rw [aUnknownName]
        simp only [ga, List.mem_cons, List.not_mem_nil, or_false] at hq
        rcases hq with rfl | rfl
        · show PySem.W.exmOne K (.ref (cad "UnknownName")) (.ref CUnknownName) = some (ecUnknownName.sups.contains "UnknownName")
          rw [aUnknownName, show ecUnknownName.sups.contains "UnknownName" = true by decide +kernel]
          exact exm_of eUnknownName sUnknownName_UnknownName
        · show PySem.W.exmOne K (.ref (cad "InvalidSchema")) (.ref CUnknownName) = some (ecInvalidSchema.sups.contains "UnknownName")
          rw [aInvalidSchema, show ecInvalidSchema.sups.contains "UnknownName" = false by decide +kernel]
          exact exm_of eUnknownName sInvalidSchema_UnknownName
      · intro f hf
        show PySem.W.findIn K (.ref (cad "UnknownName")) f = _
        rw [aUnknownName]
        simp only [ecUnknownName, List.contains_cons, List.contains_nil, Bool.or_false, Bool.or_eq_true, beq_iff_eq, Bool.false_eq_true] at hf
        rcases hf with rfl
        · exact neUnknownName_name
      · refine all_look (P := fun (x : Str) (e2 : Ec) => PySem.W.kitOne K (.ref (cad x)) (.ref (cad "UnknownName")) = some (e2.sups.contains "UnknownName")) (fun q hq => ?_)
        rw [aUnknownName]
        simp only [ga, List.mem_cons, List.not_mem_nil, or_false] at hq
        rcases hq with rfl | rfl
        · show PySem.W.kitOne K (.ref (cad "UnknownName")) (.ref CUnknownName) = some (ecUnknownName.sups.contains "UnknownName")
          rw [aUnknownName, show ecUnknownName.sups.contains "UnknownName" = true by decide +kernel]
          exact kit_of eUnknownName.is eUnknownName.oex.tyC sUnknownName_UnknownName sUnknownName_UnknownName
        · show PySem.W.kitOne K (.ref (cad "InvalidSchema")) (.ref CUnknownName) = some (ecInvalidSchema.sups.contains "UnknownName")
          rw [aInvalidSchema, show ecInvalidSchema.sups.contains "UnknownName" = false by decide +kernel]
          exact kit_of eUnknownName.is eUnknownName.oex.tyC sInvalidSchema_UnknownName sUnknownName_UnknownName
      · show PySem.W.kitOne K (.ref (cad "UnknownName")) _ = some (ecUnknownName.sups.contains _)
        rw [aUnknownName, show ecUnknownName.sups.contains "ValueError" = true by decide +kernel]
        exact kit_ve eUnknownName.ve
    · refine ⟨?_, CB, bs⟩
      obtain ⟨f, fd, i1, i2, i3, i4⟩ := eInvalidSchema.init
      refine ⟨⟨CB, bs.mg, ?_⟩, by show mg "InvalidSchema" = some (.ref (cad "InvalidSchema")); rw [aInvalidSchema]; exact eInvalidSchema.mg, by show OexC K (cad "InvalidSchema"); rw [aInvalidSchema]; exact eInvalidSchema.oex, ⟨xfInvalidSchema, f, fd, xoInvalidSchema, i1, i2, by show PySem.W.findIn K (.ref (cad "InvalidSchema")) _ = _; rw [aInvalidSchema]; exact i3, i4⟩, ?_, by show XfC K (cad "InvalidSchema"); rw [aInvalidSchema]; exact eInvalidSchema.xf, ?_, by show ExcC K (cad "InvalidSchema"); rw [aInvalidSchema]; exact eInvalidSchema.ex, ?_, ?_⟩
      · show PySem.W.kitOne K (.ref (cad "InvalidSchema")) _ = some (ecInvalidSchema.sups.contains _)
        rw [aInvalidSchema, show ecInvalidSchema.sups.contains "CappedError" = true by decide +kernel]
        exact uInvalidSchema
      · refine all_look (P := fun (x : Str) (e2 : Ec) => PySem.W.exmOne K (.ref (cad x)) (.ref (cad "InvalidSchema")) = some (e2.sups.contains "InvalidSchema")) (fun q hq => ?_)
        rw [aInvalidSchema]
        simp only [ga, List.mem_cons, List.not_mem_nil, or_false] at hq
        rcases hq with rfl | rfl
        · show PySem.W.exmOne K (.ref (cad "UnknownName")) (.ref CInvalidSchema) = some (ecUnknownName.sups.contains "InvalidSchema")
          rw [aUnknownName, show ecUnknownName.sups.contains "InvalidSchema" = false by decide +kernel]
          exact exm_of eInvalidSchema sUnknownName_InvalidSchema
        · show PySem.W.exmOne K (.ref (cad "InvalidSchema")) (.ref CInvalidSchema) = some (ecInvalidSchema.sups.contains "InvalidSchema")
          rw [aInvalidSchema, show ecInvalidSchema.sups.contains "InvalidSchema" = true by decide +kernel]
          exact exm_of eInvalidSchema sInvalidSchema_InvalidSchema
      · intro f hf
        show PySem.W.findIn K (.ref (cad "InvalidSchema")) f = _
        rw [aInvalidSchema]
        simp only [ecInvalidSchema, List.contains_cons, List.contains_nil, Bool.or_false, Bool.or_eq_true, beq_iff_eq, Bool.false_eq_true] at hf
        rcases hf with rfl | rfl
        · exact neInvalidSchema_part
        · exact neInvalidSchema_name
      · refine all_look (P := fun (x : Str) (e2 : Ec) => PySem.W.kitOne K (.ref (cad x)) (.ref (cad "InvalidSchema")) = some (e2.sups.contains "InvalidSchema")) (fun q hq => ?_)
        rw [aInvalidSchema]
        simp only [ga, List.mem_cons, List.not_mem_nil, or_false] at hq
        rcases hq with rfl | rfl
        · show PySem.W.kitOne K (.ref (cad "UnknownName")) (.ref CInvalidSchema) = some (ecUnknownName.sups.contains "InvalidSchema")
          rw [aUnknownName, show ecUnknownName.sups.contains "InvalidSchema" = false by decide +kernel]
          exact kit_of eInvalidSchema.is eInvalidSchema.oex.tyC sUnknownName_InvalidSchema sInvalidSchema_InvalidSchema
        · show PySem.W.kitOne K (.ref (cad "InvalidSchema")) (.ref CInvalidSchema) = some (ecInvalidSchema.sups.contains "InvalidSchema")
          rw [aInvalidSchema, show ecInvalidSchema.sups.contains "InvalidSchema" = true by decide +kernel]
          exact kit_of eInvalidSchema.is eInvalidSchema.oex.tyC sInvalidSchema_InvalidSchema sInvalidSchema_InvalidSchema
      · show PySem.W.kitOne K (.ref (cad "InvalidSchema")) _ = some (ecInvalidSchema.sups.contains _)
        rw [aInvalidSchema, show ecInvalidSchema.sups.contains "ValueError" = true by decide +kernel]
        exact kit_ve eInvalidSchema.ve
end K05
open PySem PySem.W PyProof.Rows
set_option maxRecDepth 100000 in
set_option maxHeartbeats 0 in
theorem PySem.Challenge.cw_cappedcalls_k05_schema_equal_and_uncappe_holds : PySem.Challenge.rw_cappedcalls_k05_schema_equal_and_uncappe.Holds := by
  w_on; o_law; k_head; (case hw => w_witness2)
  k_fill
  refine G.walk (l := PySem.Challenge.rw_cappedcalls_k05_schema_equal_and_uncappe) (Γ := K05.ga) (ds := K05.dfs) (n := K05.nm) (bs := "CappedError") (k := 30) (dl := K05.d397) (by simp [K05.dfs]) rfl rfl ⟨rfl, by decide, by decide⟩ rfl rfl (fun w h Y => PySem.W.kIn_of Y) ?F K05.law_ok
  intro w mg h KX GG
  refine' G.use (G.glbStr KX GG (x := "LETTERS") ?h1) ?_
  (case h1 => k_is)
  intro g0
  refine' G.use (G.defAt KX GG K05.d374 K05.bind374 ?h2 ?h3 ?h4 ?h5) ?_
  (case h2 => k_is); (case h3 => k_is); (case h4 => k_is); (case h5 => k_is)
  intro x374
  refine' G.use (G.defAt KX GG K05.d389 K05.bind389 ?h6 ?h7 ?h8 ?h9) ?_
  (case h6 => k_is); (case h7 => k_is); (case h8 => k_is); (case h9 => k_is)
  intro x389
  refine' G.use (G.defAt KX GG K05.d371 K05.bind371 ?h10 ?h11 ?h12 ?h13) ?_
  (case h10 => k_is); (case h11 => k_is); (case h12 => k_is); (case h13 => k_is)
  intro x371
  refine' G.use (G.defAt KX GG K05.d355 K05.bind355 ?h14 ?h15 ?h16 ?h17) ?_
  (case h14 => k_is); (case h15 => k_is); (case h16 => k_is); (case h17 => k_is)
  intro x355
  refine' G.use (G.defAt KX GG K05.d349 K05.bind349 ?h18 ?h19 ?h20 ?h21) ?_
  (case h18 => k_is); (case h19 => k_is); (case h20 => k_is); (case h21 => k_is)
  intro x349
  refine' G.use (G.defAt KX GG K05.d381 K05.bind381 ?h22 ?h23 ?h24 ?h25) ?_
  (case h22 => k_is); (case h23 => k_is); (case h24 => k_is); (case h25 => k_is)
  intro x381
  refine' G.use (G.defAt KX GG K05.d354 K05.bind354 ?h26 ?h27 ?h28 ?h29) ?_
  (case h26 => k_is); (case h27 => k_is); (case h28 => k_is); (case h29 => k_is)
  intro x354
  refine' G.use (G.defAt KX GG K05.d429 K05.bind429 ?h30 ?h31 ?h32 ?h33) ?_
  (case h30 => k_is); (case h31 => k_is); (case h32 => k_is); (case h33 => k_is)
  intro x429
  refine' G.use (G.defAt KX GG K05.d252 K05.bind252 ?h34 ?h35 ?h36 ?h37) ?_
  (case h34 => k_is); (case h35 => k_is); (case h36 => k_is); (case h37 => k_is)
  intro x252
  refine' G.use (G.defAt KX GG K05.d224 K05.bind224 ?h38 ?h39 ?h40 ?h41) ?_
  (case h38 => k_is); (case h39 => k_is); (case h40 => k_is); (case h41 => k_is)
  intro x224
  refine' G.use (G.defAt KX GG K05.d148 K05.bind148 ?h42 ?h43 ?h44 ?h45) ?_
  (case h42 => k_is); (case h43 => k_is); (case h44 => k_is); (case h45 => k_is)
  intro x148
  refine' G.use (G.defAt KX GG K05.d325 K05.bind325 ?h46 ?h47 ?h48 ?h49) ?_
  (case h46 => k_is); (case h47 => k_is); (case h48 => k_is); (case h49 => k_is)
  intro x325
  refine' G.use (G.defAt KX GG K05.d230 K05.bind230 ?h50 ?h51 ?h52 ?h53) ?_
  (case h50 => k_is); (case h51 => k_is); (case h52 => k_is); (case h53 => k_is)
  intro x230
  refine' G.use (G.defAt KX GG K05.d136 K05.bind136 ?h54 ?h55 ?h56 ?h57) ?_
  (case h54 => k_is); (case h55 => k_is); (case h56 => k_is); (case h57 => k_is)
  intro x136
  refine' G.use (G.defAt KX GG K05.d298 K05.bind298 ?h58 ?h59 ?h60 ?h61) ?_
  (case h58 => k_is); (case h59 => k_is); (case h60 => k_is); (case h61 => k_is)
  intro x298
  refine' G.use (G.defAt KX GG K05.d210 K05.bind210 ?h62 ?h63 ?h64 ?h65) ?_
  (case h62 => k_is); (case h63 => k_is); (case h64 => k_is); (case h65 => k_is)
  intro x210
  refine' G.use (G.defAt KX GG K05.d198 K05.bind198 ?h66 ?h67 ?h68 ?h69) ?_
  (case h66 => k_is); (case h67 => k_is); (case h68 => k_is); (case h69 => k_is)
  intro x198
  refine' G.use (G.defAt KX GG K05.d275 K05.bind275 ?h70 ?h71 ?h72 ?h73) ?_
  (case h70 => k_is); (case h71 => k_is); (case h72 => k_is); (case h73 => k_is)
  intro x275
  refine' G.use (G.defAt KX GG K05.d274 K05.bind274 ?h74 ?h75 ?h76 ?h77) ?_
  (case h74 => k_is); (case h75 => k_is); (case h76 => k_is); (case h77 => k_is)
  intro x274
  refine' G.use (G.defAt KX GG K05.d247 K05.bind247 ?h78 ?h79 ?h80 ?h81) ?_
  (case h78 => k_is); (case h79 => k_is); (case h80 => k_is); (case h81 => k_is)
  intro x247
  refine' G.use (G.defAt KX GG K05.d307 K05.bind307 ?h82 ?h83 ?h84 ?h85) ?_
  (case h82 => k_is); (case h83 => k_is); (case h84 => k_is); (case h85 => k_is)
  intro x307
  refine' G.use (G.defAt KX GG K05.d133 K05.bind133 ?h86 ?h87 ?h88 ?h89) ?_
  (case h86 => k_is); (case h87 => k_is); (case h88 => k_is); (case h89 => k_is)
  intro x133
  refine' G.use (G.defAt KX GG K05.d163 K05.bind163 ?h90 ?h91 ?h92 ?h93) ?_
  (case h90 => k_is); (case h91 => k_is); (case h92 => k_is); (case h93 => k_is)
  intro x163
  refine' G.use (G.defAt KX GG K05.d309 K05.bind309 ?h94 ?h95 ?h96 ?h97) ?_
  (case h94 => k_is); (case h95 => k_is); (case h96 => k_is); (case h97 => k_is)
  intro x309
  refine' G.use (G.defAt KX GG K05.d310 K05.bind310 ?h98 ?h99 ?h100 ?h101) ?_
  (case h98 => k_is); (case h99 => k_is); (case h100 => k_is); (case h101 => k_is)
  intro x310
  refine' G.use (G.defAt KX GG K05.d397 K05.bind397 ?h102 ?h103 ?h104 ?h105) ?_
  (case h102 => k_is); (case h103 => k_is); (case h104 => k_is); (case h105 => k_is)
  intro x397
  refine' G.use (G.clsAt KX GG "Schema" ?h106 ?h107 ?h108 ?h109 ?h110 ?h111 ?h112 ?h113 ?h114 ?h115 ?h116 ?h117 ?h118) ?_
  (case h106 => k_is); (case h107 => k_is); (case h108 => k_is); (case h109 => k_is); (case h110 => k_is); (case h111 => k_is); (case h112 => k_is); (case h113 => k_is); (case h114 => k_is); (case h115 => k_is); (case h116 => k_is); (case h117 => k_is); (case h118 => k_is)
  intro cSchema
  refine' G.use (G.metAt (m := "__init__") cSchema K05.d76 K05.bind76 ?h119 ?h120 ?h121 ?h122 ?h123) ?_
  (case h119 => k_is); (case h120 => k_is); (case h121 => k_is); (case h122 => k_is); (case h123 => k_is)
  intro m76
  refine' G.use (G.prpAt (m := "tables") cSchema K05.d85 K05.bind85 ?h124 ?h125 ?h126 ?h127 ?h128 ?h129 ?h130) ?_
  (case h124 => k_is); (case h125 => k_is); (case h126 => k_is); (case h127 => k_is); (case h128 => k_is); (case h129 => k_is); (case h130 => k_is)
  intro p85
  refine' G.use (G.prpAt (m := "key_columns") cSchema K05.d79 K05.bind79 ?h131 ?h132 ?h133 ?h134 ?h135 ?h136 ?h137) ?_
  (case h131 => k_is); (case h132 => k_is); (case h133 => k_is); (case h134 => k_is); (case h135 => k_is); (case h136 => k_is); (case h137 => k_is)
  intro p79
  refine' G.use (G.prpAt (m := "services") cSchema K05.d83 K05.bind83 ?h138 ?h139 ?h140 ?h141 ?h142 ?h143 ?h144) ?_
  (case h138 => k_is); (case h139 => k_is); (case h140 => k_is); (case h141 => k_is); (case h142 => k_is); (case h143 => k_is); (case h144 => k_is)
  intro p83
  refine' G.use (G.metAt (m := "__eq__") cSchema K05.d75 K05.bind75 ?h145 ?h146 ?h147 ?h148 ?h149) ?_
  (case h145 => k_is); (case h146 => k_is); (case h147 => k_is); (case h148 => k_is); (case h149 => k_is)
  intro m75
  refine' G.use (G.metAt (m := "capped_names") cSchema K05.d77 K05.bind77 ?h150 ?h151 ?h152 ?h153 ?h154) ?_
  (case h150 => k_is); (case h151 => k_is); (case h152 => k_is); (case h153 => k_is); (case h154 => k_is)
  intro m77
  refine' G.use (G.metAt (m := "uncapped") cSchema K05.d86 K05.bind86 ?h155 ?h156 ?h157 ?h158 ?h159) ?_
  (case h155 => k_is); (case h156 => k_is); (case h157 => k_is); (case h158 => k_is); (case h159 => k_is)
  intro m86
  refine' G.use (G.noAt cSchema "capped_table" ?h160) ?_
  (case h160 => k_is)
  intro nSchema_capped_table
  refine' G.use (G.noAt cSchema "key_table" ?h161) ?_
  (case h161 => k_is)
  intro nSchema_key_table
  refine' G.use (G.noAt cSchema "service_table" ?h162) ?_
  (case h162 => k_is)
  intro nSchema_service_table
  refine' G.use (G.noAt cSchema "whole_table" ?h163) ?_
  (case h163 => k_is)
  intro nSchema_whole_table
  refine' G.use (G.noAt cSchema "width_table" ?h164) ?_
  (case h164 => k_is)
  intro nSchema_width_table
  refine' G.use (G.errAt KX GG "UnknownName" K05.ecUnknownName.fields K05.xfUnknownName K05.xbUnknownName ?h165 ?h166 ?h167 ?h168 ?h169 ?h170 ?h171 ?h172 ?h173 ?h174 ?h175 ?h176 ?h177 ?h178 ?h179 ?h180 ?h181 ?h182 ?h183 ?h184 ?h185) ?_
  (case h165 => k_is); (case h166 => k_is); (case h167 => decide +kernel); (case h168 => k_is); (case h169 => k_is); (case h170 => k_is); (case h171 => k_is); (case h172 => k_is); (case h173 => k_is); (case h174 => k_is); (case h175 => k_is); (case h176 => k_is); (case h177 => k_is); (case h178 => k_is); (case h179 => k_is); (case h180 => k_is); (case h181 => k_is); (case h182 => k_is); (case h183 => k_is); (case h184 => k_is); (case h185 => k_is)
  intro eUnknownName
  refine' G.use (G.noErr eUnknownName "name" ?h186) ?_
  (case h186 => k_is)
  intro neUnknownName_name
  refine' G.use (G.errAt KX GG "InvalidSchema" K05.ecInvalidSchema.fields K05.xfInvalidSchema K05.xbInvalidSchema ?h187 ?h188 ?h189 ?h190 ?h191 ?h192 ?h193 ?h194 ?h195 ?h196 ?h197 ?h198 ?h199 ?h200 ?h201 ?h202 ?h203 ?h204 ?h205 ?h206 ?h207) ?_
  (case h187 => k_is); (case h188 => k_is); (case h189 => decide +kernel); (case h190 => k_is); (case h191 => k_is); (case h192 => k_is); (case h193 => k_is); (case h194 => k_is); (case h195 => k_is); (case h196 => k_is); (case h197 => k_is); (case h198 => k_is); (case h199 => k_is); (case h200 => k_is); (case h201 => k_is); (case h202 => k_is); (case h203 => k_is); (case h204 => k_is); (case h205 => k_is); (case h206 => k_is); (case h207 => k_is)
  intro eInvalidSchema
  refine' G.use (G.noErr eInvalidSchema "part" ?h208) ?_
  (case h208 => k_is)
  intro neInvalidSchema_part
  refine' G.use (G.noErr eInvalidSchema "name" ?h209) ?_
  (case h209 => k_is)
  intro neInvalidSchema_name
  refine' G.use (G.subAt eUnknownName eUnknownName true ?h210) ?_
  (case h210 => k_is)
  intro sUnknownName_UnknownName
  refine' G.use (G.subAt eUnknownName eInvalidSchema false ?h211) ?_
  (case h211 => k_is)
  intro sUnknownName_InvalidSchema
  refine' G.use (G.subAt eInvalidSchema eUnknownName false ?h212) ?_
  (case h212 => k_is)
  intro sInvalidSchema_UnknownName
  refine' G.use (G.subAt eInvalidSchema eInvalidSchema true ?h213) ?_
  (case h213 => k_is)
  intro sInvalidSchema_InvalidSchema
  refine' G.use (G.baseAt KX GG "CappedError" ?h214 ?h215 ?h216 ?h217 ?h218 ?h219) ?_
  (case h214 => k_is); (case h215 => k_is); (case h216 => k_is); (case h217 => k_is); (case h218 => k_is); (case h219 => k_is)
  intro bs
  refine' G.use (G.upAt eUnknownName bs ?h220) ?_
  (case h220 => k_is)
  intro uUnknownName
  refine' G.use (G.upAt eInvalidSchema bs ?h221) ?_
  (case h221 => k_is)
  intro uInvalidSchema
  refine' G.use (G.blts_of KX GG ?h222 ?h223 ?h224 ?h225 ?h226 ?h227 ?h228 ?h229 ?h230 ?h231 ?h232 ?h233 ?h234 ?h235 ?h236) ?_
  (case h222 => k_is); (case h223 => k_is); (case h224 => k_is); (case h225 => k_is); (case h226 => k_is); (case h227 => k_is); (case h228 => k_is); (case h229 => k_is); (case h230 => k_is); (case h231 => k_is); (case h232 => k_is); (case h233 => k_is); (case h234 => k_is); (case h235 => k_is); (case h236 => k_is)
  intro hb
  exact ⟨K05.top_of hb g0 x374 x389 x371 x355 x349 x381 x354 x429 x252 x224 x148 x325 x230 x136 x298 x210 x198 x275 x274 x247 x307 x133 x163 x309 x310 x397 cSchema m76 p85 p79 p83 m75 m77 m86 nSchema_capped_table nSchema_key_table nSchema_service_table nSchema_whole_table nSchema_width_table eUnknownName neUnknownName_name eInvalidSchema neInvalidSchema_part neInvalidSchema_name sUnknownName_UnknownName sUnknownName_InvalidSchema sInvalidSchema_UnknownName sInvalidSchema_InvalidSchema bs uUnknownName uInvalidSchema, x397⟩
#print axioms PySem.Challenge.cw_cappedcalls_k05_schema_equal_and_uncappe_holds

